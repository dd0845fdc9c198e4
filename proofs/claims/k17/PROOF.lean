import PyProof.Rows.All
import Wide.All
import OpenK.AllK
import Wide.FinOn
import HandS.ForSpec
import HandS.ForMost
import HandS.IsInst
import HandS.Deep
import HandS.Wide
import HandS.TupAny
import HandS.Zip
import HandS.Style
import HandS.Words
import HandS.Lambda
import HandS.RaiseMore
import HandS.SortInts
import HandS.Walk
import KE.GoesMore
import KE.GoesEnum
import HandS.TupMul
import PyProof.ReprRoads
import PyProof.Rows.IntBool
import KE.SortData
import KE.DataMinMax
import HandS.Conv
import PyProof.StrLawsRepr
import PyProof.Rows.MatchSeqLen
import PyProof.RulesMatchSeq
import HandS.Dict
import KE.LtData
import KE.DataCmp
import PyProof.FactsAll.dict
import PyProof.NeData
import HandS.TryOnly
import PyProof.StrOps2
import HandS.Star
import PyProof.AssignAttr
import KE.KExcSuper
import HandS.ExcInit
import HandS.ExcField
import HandS.ExcIs
import HandS.ExcOwn
import HandS.Small
import HandS.TryMany
import HandS.Nested
import HandS.WordsExc
import HandS.ExcCtx
import KE.KIsAll
import KE.KTryMore
import PySem.Challenge.RW_twobricks_k17_cuts_of_great_boxes
set_option Elab.async false
set_option linter.all false
set_option maxRecDepth 100000
set_option maxHeartbeats 4000000
namespace DL
open PySem PySem.Spec PyProof.Rows L2

/-- the tables of code objects that lambdas are kept in: (table, the lambda's name) -/
class Tb where
  T : List (Addr × Str)
instance (priority := low) tb0 : Tb := ⟨[]⟩
/-- a number that repr does not show: it marks what stands for an object -/
def markI : Int := 2 ^ 2000
/-- an object of the class n with these attributes, as data that no other value stands for -/
abbrev objD (n : Str) (fs : List (Str × PyData)) : PyData := .dict ((.int markI, .str n) :: fs.map fun p => (.str p.1, p.2))
/-- the class named n is at C, and is none of the built-in ones -/
structure ObjK (K : PySem.W.Frag) (n : Str) (C : Addr) : Prop where
  at_ : PySem.W.nsIn K mainGlobals n = some (some (.ref C))
  ty : ∀ T ∈ ["int", "bool", "str", "tuple", "list", "dict"], PySem.W.kitOne K (.ref C) (.type T) = some false
  cl : Cls K C
  ha : PySem.W.findIn K (.ref C) "__class__" = some (some (.builtin "object.__class__"))
  hn : PySem.W.specialIn K (.builtin "object.__class__") "__get__" = some (some (.builtin "getset_descriptor.__get__"))
  tk : PySem.W.takesIn K (.builtin "object.__class__") = some true
  mr : PySem.W.mroIn K C (.type "object") = some true
mutual
inductive Dn (K : PySem.W.Frag) (G : Hp) : V → PyData → Prop
  | non : Dn K G .non .none
  | bl (b : Bool) : Dn K G (.bl b) (.bool b)
  | int (i : Int) : Dn K G (.int i) (.int i)
  | str (x : Str) : Dn K G (.str x) (.str x)
  | lst {a : Addr} {xs : List V} {ds : List PyData} (h : G a = some (.lst xs)) (t : DnL K G xs ds) : Dn K G (.ref a) (.list ds)
  | tup {a : Addr} {xs : List V} {ds : List PyData} (h : G a = some (.tup xs)) (t : DnL K G xs ds) : Dn K G (.ref a) (.tuple ds)
  | dic {a : Addr} (h : G a = some (.dK [])) (n : a ≠ sysModules) : Dn K G (.ref a) (.dict [])
  | ob {a C dx : Addr} {n : Str} {ws : List (Str × V)} {fs : List (Str × PyData)} (h : G a = some (.ins C dx ws)) (k : ObjK K n C) (e : ws.map (·.1) = fs.map (·.1)) (t : DnL K G (ws.map (·.2)) (fs.map (·.2))) : Dn K G (.ref a) (.dict ((.int markI, .str n) :: fs.map fun p => (.str p.1, p.2)))
inductive DnL (K : PySem.W.Frag) (G : Hp) : List V → List PyData → Prop
  | nil : DnL K G [] []
  | cons {v : V} {vs : List V} {d : PyData} {ds : List PyData} (h : Dn K G v d) (t : DnL K G vs ds) : DnL K G (v :: vs) (d :: ds)
end
theorem sqT_mono {K : PySem.W.Frag} {G H : Hp} {a : Addr} {xs : List V} (s : Same G H) (h : SqT K G a xs) : SqT K H a xs := by
  rcases h with (h | ⟨o, h⟩) | h
  · exact .inl (.inl (s _ _ h))
  · exact .inl (.inr ⟨o, s _ _ h⟩)
  · exact .inr h
mutual
theorem Dn.mono' {K : PySem.W.Frag} {G H : Hp} (s : Same G H) : ∀ {v : V} {d : PyData}, Dn K G v d → Dn K H v d
  | _, _, .non => .non
  | _, _, .bl b => .bl b
  | _, _, .int i => .int i
  | _, _, .str x => .str x
  | _, _, .lst h t => .lst (s _ _ h) (DnL.mono' s t)
  | _, _, .tup h t => .tup (s _ _ h) (DnL.mono' s t)
  | _, _, .dic h n => .dic (s _ _ h) n
  | _, _, .ob h k e t => .ob (s _ _ h) k e (DnL.mono' s t)
theorem DnL.mono' {K : PySem.W.Frag} {G H : Hp} (s : Same G H) : ∀ {vs : List V} {ds : List PyData}, DnL K G vs ds → DnL K H vs ds
  | _, _, .nil => .nil
  | _, _, .cons a b => .cons (Dn.mono' s a) (DnL.mono' s b)
end
theorem Dn.mono {K : PySem.W.Frag} {G H : Hp} (s : Same G H) {v : V} (d : PyData) (h : Dn K G v d) : Dn K H v d := Dn.mono' s h
theorem DnL.mono {K : PySem.W.Frag} {G H : Hp} (s : Same G H) {vs : List V} (ds : List PyData) (h : DnL K G vs ds) : DnL K H vs ds := DnL.mono' s h
section
variable {K : PySem.W.Frag} {G : Hp}
theorem DnL.len : ∀ {vs : List V} {ds : List PyData}, DnL K G vs ds → vs.length = ds.length
  | _, [], h => by cases h; rfl
  | _, d :: ds, h => by cases h with | cons a b => simp [DnL.len b]
theorem DnL.get : ∀ {vs : List V} {ds : List PyData} {i : Nat} {d : PyData}, DnL K G vs ds → ds[i]? = some d → ∃ v, vs[i]? = some v ∧ Dn K G v d
  | _, [], _, _, h, e => by simp at e
  | _, d :: ds, 0, _, h, e => by
    cases h with
    | cons a b => simp at e; subst e; exact ⟨_, rfl, a⟩
  | _, d :: ds, i + 1, x, h, e => by
    cases h with
    | cons a b =>
      obtain ⟨v, h1, h2⟩ := DnL.get (i := i) b (by simpa using e)
      exact ⟨v, by simpa using h1, h2⟩
theorem DnL.app : ∀ {vs ws : List V} {ds es : List PyData}, DnL K G vs ds → DnL K G ws es → DnL K G (vs ++ ws) (ds ++ es)
  | _, _, [], _, h, h2 => by cases h; exact h2
  | _, _, d :: ds, _, h, h2 => by cases h with | cons a b => exact .cons a (DnL.app b h2)
theorem DnL.take : ∀ {vs : List V} {ds : List PyData} (n : Nat), DnL K G vs ds → DnL K G (vs.take n) (ds.take n)
  | _, _, 0, _ => by simp; exact .nil
  | _, [], n + 1, h => by cases h; simp; exact .nil
  | _, d :: ds, n + 1, h => by cases h with | cons a b => exact .cons a (DnL.take n b)
theorem DnL.drop : ∀ {vs : List V} {ds : List PyData} (n : Nat), DnL K G vs ds → DnL K G (vs.drop n) (ds.drop n)
  | _, _, 0, h => by simpa using h
  | _, [], n + 1, h => by cases h; simp; exact .nil
  | _, d :: ds, n + 1, h => by cases h with | cons a b => exact DnL.drop n b
theorem DnL.rev : ∀ {vs : List V} {ds : List PyData}, DnL K G vs ds → DnL K G vs.reverse ds.reverse
  | _, [], h => by cases h; exact .nil
  | _, d :: ds, h => by
    cases h with
    | cons a b =>
      rw [List.reverse_cons, List.reverse_cons]
      exact DnL.app (DnL.rev b) (.cons a .nil)
theorem DnL.set {v : V} {d : PyData} (h : Dn K G v d) : ∀ {vs : List V} {ds : List PyData} (i : Nat), DnL K G vs ds → DnL K G (vs.set i v) (ds.set i d)
  | _, [], _, t => by cases t; exact .nil
  | _, _ :: _, 0, t => by cases t with | cons a b => exact .cons h b
  | _, _ :: _, i + 1, t => by cases t with | cons a b => exact .cons a (DnL.set h i b)
theorem DnL.dropLast {vs : List V} {ds : List PyData} (h : DnL K G vs ds) : DnL K G vs.dropLast ds.dropLast := by
  rw [List.dropLast_eq_take, List.dropLast_eq_take, h.len]
  exact h.take _
theorem DnL.erase : ∀ {vs : List V} {ds : List PyData} (i : Nat), DnL K G vs ds → DnL K G (vs.eraseIdx i) (ds.eraseIdx i)
  | _, [], _, t => by cases t; exact .nil
  | _, _ :: _, 0, t => by cases t with | cons a b => exact b
  | _, _ :: _, i + 1, t => by cases t with | cons a b => exact .cons a (DnL.erase i b)
theorem DnL.ints : ∀ (ns : List Int), DnL K G (ns.map V.int) (ns.map PyData.int)
  | [] => .nil
  | n :: ns => .cons (.int n) (DnL.ints ns)
theorem DnL.toInts : ∀ {vs : List V} {ns : List Int}, DnL K G vs (ns.map PyData.int) → vs = ns.map V.int
  | _, [], h => by cases h; rfl
  | _, n :: ns, h => by
    cases h with
    | cons a b => cases a; rw [DnL.toInts b]; rfl
theorem DnL.toBools : ∀ {vs : List V} {ns : List Bool}, DnL K G vs (ns.map PyData.bool) → vs = ns.map V.bl
  | _, [], h => by cases h; rfl
  | _, n :: ns, h => by
    cases h with
    | cons a b => cases a; rw [DnL.toBools b]; rfl
end

/-- what a slot holds: nothing; data that never changes any more; a list of one's own (its address, its items); the deck -/
inductive Cell where
  | em
  | d (x : PyData)
  | ol (a : Addr) (xs : List PyData)
  | dk (a b c : Addr)
  | scr (a : Addr) (ns : List Int)
  | dx (a b c : Addr) (xs : List Int) (n : Int) (ys : List Int)
  | od (a : Addr) (kvs : List (List Int × PyData))
  | xc (a : Addr) (cls : Value) (d : Option Addr) (x : PyData)
  | ob (a : Addr) (n : Str) (fs : List (Str × PyData))
def Cell.fp : Cell → List Addr
  | .ol a _ => [a]
  | .dk a b c => [a, b, c]
  | .dx a b c _ _ _ => [a, b, c]
  | .od a _ => [a]
  | .ob a _ _ => [a]
  | _ => []
/-- a dict whose keys are tuples of integers -/
def keyI (k : List Int) : List Key := k.map fun i => (Sum.inl i : Key)
def DnK (K : PySem.W.Frag) (G : Hp) (ws : List (List Key × V)) (kvs : List (List Int × PyData)) : Prop := ws.map (·.1) = kvs.map (fun p => keyI p.1) ∧ DnL K G (ws.map (·.2)) (kvs.map (·.2))
/-- the deck: the great numbers that are left, all numbers, the count -/
def DeckOk (H : Hp) (a b c : Addr) : Prop := a ≠ b ∧ a ≠ c ∧ b ≠ c ∧ ∃ (n : Int) (xs ys : List Int), H a = some (.lst [.ref b, .ref c, .int n]) ∧ H b = some (.lst (xs.map V.int)) ∧ H c = some (.lst (ys.map V.int)) ∧ ys ≠ [] ∧ ∀ x ∈ xs, 0 ≤ x
def excD (n : Str) (fs : List (Str × PyData)) : PyData := .dict [(.str n, .dict (fs.map fun p => (.str p.1, p.2)))]
/-- an exception's class and dict stand for it -/
def ExcAt (K : PySem.W.Frag) (G : Hp) (cls : Value) (d : Option Addr) (x : PyData) : Prop := ∃ (n : Str) (C : Addr) (fs : List (Str × PyData)), x = excD n fs ∧ cls = .ref C ∧ (PySem.W.clsIn K C).map (·.name) = some n ∧
  ((∃ (dd : Addr) (ws : List (Str × V)), d = some dd ∧ G dd = some (.xd ws) ∧ ws.map (·.1) = fs.map (·.1) ∧ DnL K G (ws.map (·.2)) (fs.map (·.2))) ∨ (fs = [] ∧ d = none))
theorem ExcAt.mono {K : PySem.W.Frag} {G G' : Hp} {cls : Value} {d : Option Addr} {x : PyData} (s : Same G G') (h : ExcAt K G cls d x) : ExcAt K G' cls d x := by
  obtain ⟨n, C, fs, h1, h2, h3, h4⟩ := h
  refine ⟨n, C, fs, h1, h2, h3, ?_⟩
  rcases h4 with ⟨dd, ws, q1, q2, q3, q4⟩ | q
  · exact .inl ⟨dd, ws, q1, s _ _ q2, q3, q4.mono s⟩
  · exact .inr q
def CellOk (K : PySem.W.Frag) (G H : Hp) : Cell → Option V → Prop
  | .em, _ => True
  | .d x, o => ∃ v, o = some v ∧ Dn K G v x
  | .ol a xs, o => o = some (.ref a) ∧ ∃ vs, H a = some (.lst vs) ∧ DnL K G vs xs
  | .dk a b c, o => o = some (.ref a) ∧ DeckOk H a b c
  | .scr a ns, o => o = some (.ref a) ∧ SqL K G a (ns.map V.int)
  | .od a kvs, o => o = some (.ref a) ∧ ∃ ws, H a = some (.dT ws) ∧ DnK K G ws kvs
  | .xc a cls d x, o => o = some (.ref a) ∧ ExcAt K G cls d x
  | .ob a n fs, o => o = some (.ref a) ∧ ∃ C dx ws, H a = some (.ins C dx ws) ∧ ObjK K n C ∧ ws.map (·.1) = fs.map (·.1) ∧ DnL K G (ws.map (·.2)) (fs.map (·.2))
  | .dx a b c xs n ys, o => o = some (.ref a) ∧ a ≠ b ∧ a ≠ c ∧ b ≠ c ∧ H a = some (.lst [.ref b, .ref c, .int n]) ∧ H b = some (.lst (xs.map V.int)) ∧ H c = some (.lst (ys.map V.int))

abbrev DS := List Cell
/-- what is neither a table nor a code object -/
def notTE (x : HO) : Prop := (∀ ps, x ≠ .tbl ps) ∧ ∀ f, x ≠ .ext f
theorem notTE_lst {xs : List V} : notTE (.lst xs) := ⟨fun _ z => (nomatch z), fun _ z => (nomatch z)⟩
theorem tabs_upd {T : List (Addr × Str)} {H : Hp} {p : Addr} {o : HO} (h : LamX.Tabs T H) (hp : ∀ x, H p = some x → notTE x) : LamX.Tabs T (upd H p o) := fun q hq => by
  obtain ⟨ps, h1, h2, h3⟩ := h q hq
  refine ⟨ps, ?_, h2, fun pos cv hc => ?_⟩
  · rw [upd_ne (fun z => (hp _ (by rw [← z]; exact h1)).1 ps rfl)]; exact h1
  · obtain ⟨c, e1, e2⟩ := h3 pos cv hc
    exact ⟨c, e1, by rw [upd_ne (fun z => (hp _ (by rw [← z]; exact e2)).2 _ rfl)]; exact e2⟩
theorem tabs_new {T : List (Addr × Str)} {H : Hp} {p : Addr} {o : HO} (h : LamX.Tabs T H) (hp : H p = none) : LamX.Tabs T (upd H p o) := tabs_upd h fun x e => by rw [hp] at e; cases e
variable [Tb]
structure Rel (K : PySem.W.Frag) (B G : Hp) (δ : DS) (σ : L2.St) (H : Hp) : Prop where
  len : σ.length = δ.length
  sg : Same G H
  sb : Same B H
  dj : ∀ a, G a = none ∨ B a = none
  ok : ∀ (i : Nat) (c : Cell) (o : Option V), δ[i]? = some c → σ[i]? = some o → CellOk K G H c o
  ap : ∀ (i j : Nat) (c c' : Cell) (a : Addr), δ[i]? = some c → δ[j]? = some c' → a ∈ c.fp → a ∈ c'.fp → i = j
  fr : ∀ (i : Nat) (c : Cell) (a : Addr), δ[i]? = some c → a ∈ c.fp → G a = none ∧ B a = none
  tt : LamX.Tabs Tb.T H

section
variable {K : PySem.W.Frag} {B G G' H H' : Hp} {δ : DS} {σ : L2.St} {p a : Addr} {o : HO} {i : Nat} {c : Cell}
theorem same_new (h : H p = none) : Same H (upd H p o) := fun b x e => by
  rw [upd_ne (ne_of_none e h)]; exact e
theorem Rel.at (R : Rel K B G δ σ H) (h : δ[i]? = some c) : ∃ o, σ[i]? = some o ∧ CellOk K G H c o := by
  have hi : i < δ.length := (List.getElem?_eq_some_iff.mp h).1
  have hs : i < σ.length := by rw [R.len]; exact hi
  exact ⟨σ[i], List.getElem?_eq_getElem hs, R.ok i c _ h (List.getElem?_eq_getElem hs)⟩
theorem cell_tracked (ok : CellOk K G H c (some (.ref a))) (hc : p ∈ c.fp) : ∃ o, H p = some o := by
  cases c with
  | em => cases hc
  | d x => cases hc
  | ol a xs =>
    obtain ⟨_, vs, e, _⟩ := ok
    rw [List.mem_singleton.mp hc]; exact ⟨_, e⟩
  | dk a b c =>
    obtain ⟨_, _, _, _, n, xs, ys, e1, e2, e3, _⟩ := ok
    simp only [Cell.fp, List.mem_cons, List.not_mem_nil, or_false] at hc
    rcases hc with rfl | rfl | rfl
    · exact ⟨_, e1⟩
    · exact ⟨_, e2⟩
    · exact ⟨_, e3⟩
  | scr a ns => cases hc
  | xc a cls d x => cases hc
  | ob a n fs =>
    obtain ⟨_, C, dx, ws, e, _⟩ := ok
    rw [List.mem_singleton.mp hc]; exact ⟨_, e⟩
  | od a kvs =>
    obtain ⟨_, ws, e, _⟩ := ok
    rw [List.mem_singleton.mp hc]; exact ⟨_, e⟩
  | dx a b c xs n ys =>
    obtain ⟨_, _, _, _, e1, e2, e3⟩ := ok
    simp only [Cell.fp, List.mem_cons, List.not_mem_nil, or_false] at hc
    rcases hc with rfl | rfl | rfl
    · exact ⟨_, e1⟩
    · exact ⟨_, e2⟩
    · exact ⟨_, e3⟩
theorem cell_tr {o : Option V} (ok : CellOk K G H c o) (hc : p ∈ c.fp) : ∃ o, H p = some o := by
  cases c with
  | em => cases hc
  | d x => cases hc
  | ol a xs => exact cell_tracked (a := a) (by obtain ⟨e, r⟩ := ok; exact ⟨rfl, r⟩) hc
  | dk a b c => exact cell_tracked (K := K) (G := G) (a := a) (by obtain ⟨e, r⟩ := ok; exact ⟨rfl, r⟩) hc
  | scr a ns => cases hc
  | xc a cls d x => cases hc
  | ob a n fs => exact cell_tracked (K := K) (G := G) (a := a) (by obtain ⟨e, r⟩ := ok; exact ⟨rfl, r⟩) hc
  | od a kvs => exact cell_tracked (K := K) (G := G) (a := a) (by obtain ⟨e, r⟩ := ok; exact ⟨rfl, r⟩) hc
  | dx a b c xs n ys => exact cell_tracked (K := K) (G := G) (a := a) (by obtain ⟨e, r⟩ := ok; exact ⟨rfl, r⟩) hc
/-- a cell's content goes along with a change that spares its own objects -/
theorem CellOk.stay {o : Option V} (ok : CellOk K G H c o) (sg : Same G G') (hk : ∀ b ∈ c.fp, H' b = H b) : CellOk K G' H' c o := by
  cases c with
  | em => trivial
  | d x => obtain ⟨v, e, h⟩ := ok; exact ⟨v, e, h.mono sg⟩
  | ol a xs =>
    obtain ⟨e, vs, h, t⟩ := ok
    exact ⟨e, vs, by rw [hk a (by simp [Cell.fp])]; exact h, t.mono sg⟩
  | dk a b c =>
    obtain ⟨e, h1, h2, h3, n, xs, ys, e1, e2, e3, r⟩ := ok
    exact ⟨e, h1, h2, h3, n, xs, ys, by rw [hk a (by simp [Cell.fp])]; exact e1, by rw [hk b (by simp [Cell.fp])]; exact e2, by rw [hk c (by simp [Cell.fp])]; exact e3, r⟩
  | scr a ns => exact ⟨ok.1, sg.seq ok.2⟩
  | xc a cls d x => exact ⟨ok.1, ok.2.mono sg⟩
  | ob a n fs =>
    obtain ⟨e, C, dx, ws, h, k, e2, t⟩ := ok
    exact ⟨e, C, dx, ws, by rw [hk a (by simp [Cell.fp])]; exact h, k, e2, t.mono sg⟩
  | od a kvs =>
    obtain ⟨e, ws, h, t1, t2⟩ := ok
    exact ⟨e, ws, by rw [hk a (by simp [Cell.fp])]; exact h, t1, t2.mono sg⟩
  | dx a b c xs n ys =>
    obtain ⟨e, h1, h2, h3, e1, e2, e3⟩ := ok
    exact ⟨e, h1, h2, h3, by rw [hk a (by simp [Cell.fp])]; exact e1, by rw [hk b (by simp [Cell.fp])]; exact e2, by rw [hk c (by simp [Cell.fp])]; exact e3⟩
theorem Rel.tr (R : Rel K B G δ σ H) (h : δ[i]? = some c) (hc : p ∈ c.fp) : ∃ o, H p = some o := by
  obtain ⟨o, _, ok⟩ := R.at h
  exact cell_tr ok hc
theorem Rel.freeG (R : Rel K B G δ σ H) (h : H p = none) : G p = none := R.sg.free h
theorem Rel.freeB (R : Rel K B G δ σ H) (h : H p = none) : B p = none := R.sb.free h
/-- a new object, laid to what never changes -/
theorem Rel.laid (R : Rel K B G δ σ H) (h : H p = none) : Rel K B (upd G p o) δ σ (upd H p o) ∧ Same G (upd G p o) := by
  have sG : Same G (upd G p o) := same_new (R.freeG h)
  refine ⟨⟨R.len, fun b x e => ?_, R.sb.trans (same_new h), fun b => ?_, fun i c w e1 e2 => ?_, R.ap, fun i c b e hb => ?_, tabs_new R.tt h⟩, sG⟩
  · by_cases hb : b = p
    · subst hb; rw [upd_same] at e ⊢; exact e
    · rw [upd_ne hb] at e ⊢; exact R.sg _ _ e
  · by_cases hb : b = p
    · subst hb; exact .inr (R.freeB h)
    · rw [upd_ne hb]; exact R.dj b
  · refine (R.ok i c w e1 e2).stay sG fun b hb => ?_
    obtain ⟨x, ex⟩ := R.tr e1 hb
    exact upd_ne (ne_of_none ex h)
  · obtain ⟨x, ex⟩ := R.tr e hb
    obtain ⟨f1, f2⟩ := R.fr i c b e hb
    exact ⟨by rw [upd_ne (ne_of_none ex h)]; exact f1, f2⟩
/-- a new object that isn't looked at yet -/
theorem Rel.grow (R : Rel K B G δ σ H) (h : H p = none) : Rel K B G δ σ (upd H p o) := by
  refine ⟨R.len, R.sg.trans (same_new h), R.sb.trans (same_new h), R.dj, fun i c w e1 e2 => ?_, R.ap, R.fr, tabs_new R.tt h⟩
  refine (R.ok i c w e1 e2).stay (Same.refl _) fun b hb => ?_
  obtain ⟨x, ex⟩ := R.tr e1 hb
  exact upd_ne (ne_of_none ex h)
/-- .. it is set among what is kept for others -/
theorem Rel.growB (R : Rel K B G δ σ H) (h : H p = none) : Rel K (upd B p o) G δ σ (upd H p o) := by
  refine ⟨R.len, R.sg.trans (same_new h), fun b x e => ?_, fun b => ?_, fun i c w e1 e2 => ?_, R.ap, fun i c b e hb => ?_, tabs_new R.tt h⟩
  · by_cases hb : b = p
    · subst hb; rw [upd_same] at e ⊢; exact e
    · rw [upd_ne hb] at e ⊢; exact R.sb _ _ e
  · by_cases hb : b = p
    · subst hb; exact .inl (R.freeG h)
    · rw [upd_ne hb]; exact R.dj b
  · refine (R.ok i c w e1 e2).stay (Same.refl _) fun b hb => ?_
    obtain ⟨x, ex⟩ := R.tr e1 hb
    exact upd_ne (ne_of_none ex h)
  · obtain ⟨x, ex⟩ := R.tr e hb
    obtain ⟨f1, f2⟩ := R.fr i c b e hb
    exact ⟨f1, by rw [upd_ne (ne_of_none ex h)]; exact f2⟩
/-- one of those kept for others is changed (by whom it belongs to) -/
theorem Rel.putB (R : Rel K B G δ σ H) {u : HO} (h : B p = some u) (hu : notTE u) : Rel K (upd B p o) G δ σ (upd H p o) := by
  have gp : G p = none := by
    rcases R.dj p with e | e
    · exact e
    · rw [h] at e; cases e
  refine ⟨R.len, fun b x e => ?_, fun b x e => ?_, fun b => ?_, fun i c w e1 e2 => ?_, R.ap, fun i c b e hb => ?_, tabs_upd R.tt fun x e => by rw [R.sb _ _ h] at e; cases e; exact hu⟩
  · have hb : b ≠ p := fun z => by rw [z, gp] at e; cases e
    rw [upd_ne hb]; exact R.sg _ _ e
  · by_cases hb : b = p
    · subst hb; rw [upd_same] at e ⊢; exact e
    · rw [upd_ne hb] at e ⊢; exact R.sb _ _ e
  · by_cases hb : b = p
    · subst hb; exact .inl gp
    · rw [upd_ne hb]; exact R.dj b
  · refine (R.ok i c w e1 e2).stay (Same.refl _) fun b hb => upd_ne fun z => ?_
    have := (R.fr i c b e1 hb).2
    rw [z, h] at this; cases this
  · obtain ⟨f1, f2⟩ := R.fr i c b e hb
    refine ⟨f1, ?_⟩
    rw [upd_ne (fun z => by rw [z, h] at f2; cases f2)]; exact f2
/-- what was kept for others and hangs on nobody is now looked at: frozen -/
theorem Rel.takeB (R : Rel K B G δ σ H) {B0 : Hp} (h0 : B0 p = none) (hs : ∀ b, b ≠ p → B0 b = B b) {u : HO} (h : B p = some u) : Rel K B0 (upd G p u) δ σ H ∧ Same G (upd G p u) := by
  have gp : G p = none := by
    rcases R.dj p with e | e
    · exact e
    · rw [h] at e; cases e
  have sG : Same G (upd G p u) := same_new gp
  refine ⟨⟨R.len, fun b x e => ?_, fun b x e => ?_, fun b => ?_, fun i c w e1 e2 => (R.ok i c w e1 e2).stay sG fun _ _ => rfl, R.ap, fun i c b e hb => ?_, R.tt⟩, sG⟩
  · by_cases hb : b = p
    · subst hb; rw [upd_same] at e; cases e; exact R.sb _ _ h
    · rw [upd_ne hb] at e; exact R.sg _ _ e
  · have hb : b ≠ p := fun z => by rw [z, h0] at e; cases e
    rw [hs b hb] at e; exact R.sb _ _ e
  · by_cases hb : b = p
    · subst hb; exact .inr h0
    · rw [upd_ne hb, hs b hb]; exact R.dj b
  · obtain ⟨f1, f2⟩ := R.fr i c b e hb
    have hbp : b ≠ p := fun z => by rw [z, h] at f2; cases f2
    exact ⟨by rw [upd_ne hbp]; exact f1, by rw [hs b hbp]; exact f2⟩
/-- a slot is stored -/
theorem Rel.set {v : V} (R : Rel K B G δ σ H) (ok : CellOk K G H c (some v)) (hn : ∀ a ∈ c.fp, (G a = none ∧ B a = none) ∧ ∀ j c', j ≠ i → δ[j]? = some c' → a ∉ c'.fp) : Rel K B G (δ.set i c) (σ.set i (some v)) H := by
  have get : ∀ {j : Nat} {x : Cell}, (δ.set i c)[j]? = some x → (j = i ∧ x = c) ∨ (j ≠ i ∧ δ[j]? = some x) := fun {j x} e => by
    by_cases hj : j = i
    · subst hj
      rw [List.getElem?_set] at e
      simp only [if_true] at e
      split at e
      · cases e; exact .inl ⟨rfl, rfl⟩
      · cases e
    · rw [List.getElem?_set_ne (Ne.symm hj)] at e; exact .inr ⟨hj, e⟩
  refine ⟨by simp [R.len], R.sg, R.sb, R.dj, fun j x w e1 e2 => ?_, fun j k x y a e1 e2 m1 m2 => ?_, fun j x a e m => ?_, R.tt⟩
  · rcases get e1 with ⟨rfl, rfl⟩ | ⟨hj, e1⟩
    · rw [List.getElem?_set] at e2
      simp only [if_true] at e2
      split at e2
      · cases e2; exact ok
      · cases e2
    · rw [List.getElem?_set_ne (Ne.symm hj)] at e2
      exact R.ok j x w e1 e2
  · rcases get e1 with ⟨h1, h1'⟩ | ⟨h1, e3⟩
    · rcases get e2 with ⟨h2, h2'⟩ | ⟨h2, e4⟩
      · rw [h1, h2]
      · rw [h1'] at m1; exact absurd m2 ((hn a m1).2 k y h2 e4)
    · rcases get e2 with ⟨h2, h2'⟩ | ⟨h2, e4⟩
      · rw [h2'] at m2; exact absurd m1 ((hn a m2).2 j x h1 e3)
      · exact R.ap j k x y a e3 e4 m1 m2
  · rcases get e with ⟨_, rfl⟩ | ⟨_, e⟩
    · exact (hn a m).1
    · exact R.fr j x a e m
theorem Rel.setD {v : V} {x : PyData} (R : Rel K B G δ σ H) (h : Dn K G v x) : Rel K B G (δ.set i (.d x)) (σ.set i (some v)) H :=
  R.set ⟨v, rfl, h⟩ fun a m => by cases m
/-- a slot is forgotten -/
theorem Rel.clear (R : Rel K B G δ σ H) (o : Option V) : Rel K B G (δ.set i .em) (σ.set i o) H := by
  have get : ∀ {j : Nat} {x : Cell}, (δ.set i .em)[j]? = some x → x = .em ∨ (j ≠ i ∧ δ[j]? = some x) := fun {j x} e => by
    by_cases hj : j = i
    · subst hj
      rw [List.getElem?_set] at e
      simp only [if_true] at e
      split at e
      · cases e; exact .inl rfl
      · cases e
    · rw [List.getElem?_set_ne (Ne.symm hj)] at e; exact .inr ⟨hj, e⟩
  refine ⟨by simp [R.len], R.sg, R.sb, R.dj, fun j x w e1 e2 => ?_, fun j k x y a e1 e2 m1 m2 => ?_, fun j x a e m => ?_, R.tt⟩
  · rcases get e1 with rfl | ⟨hj, e1⟩
    · trivial
    · rw [List.getElem?_set_ne (Ne.symm hj)] at e2
      exact R.ok j x w e1 e2
  · rcases get e1 with rfl | ⟨h1, e1⟩
    · cases m1
    · rcases get e2 with rfl | ⟨h2, e2⟩
      · cases m2
      · exact R.ap j k x y a e1 e2 m1 m2
  · rcases get e with rfl | ⟨_, e⟩
    · cases m
    · exact R.fr j x a e m
/-- the cell at i is told otherwise (its value stays) -/
theorem Rel.recell {o : Option V} (R : Rel K B G δ σ H) (hσ : σ[i]? = some o) (ok : CellOk K G H c o) (hn : ∀ a ∈ c.fp, (G a = none ∧ B a = none) ∧ ∀ j c', j ≠ i → δ[j]? = some c' → a ∉ c'.fp) : Rel K B G (δ.set i c) σ H := by
  have hi : i < σ.length := (List.getElem?_eq_some_iff.mp hσ).1
  cases o with
  | some v =>
    have := R.set (i := i) (v := v) ok hn
    have e : σ.set i (some v) = σ := by
      apply List.ext_getElem?
      intro j
      by_cases hj : j = i
      · subst hj; rw [List.getElem?_set_self hi, hσ]
      · rw [List.getElem?_set_ne (Ne.symm hj)]
    rw [e] at this; exact this
  | none =>
    cases c with
    | em =>
      have := R.clear (i := i) none
      have e : σ.set i none = σ := by
        apply List.ext_getElem?
        intro j
        by_cases hj : j = i
        · subst hj; rw [List.getElem?_set_self hi, hσ]
        · rw [List.getElem?_set_ne (Ne.symm hj)]
      rw [e] at this; exact this
    | d x => obtain ⟨v, e, _⟩ := ok; cases e
    | ol a xs => obtain ⟨e, _⟩ := ok; cases e
    | dk a b c => obtain ⟨e, _⟩ := ok; cases e
    | scr a ns => obtain ⟨e, _⟩ := ok; cases e
    | xc a cls d x => obtain ⟨e, _⟩ := ok; cases e
    | ob a n fs => obtain ⟨e, _⟩ := ok; cases e
    | od a kvs => obtain ⟨e, _⟩ := ok; cases e
    | dx a b c xs n ys => obtain ⟨e, _⟩ := ok; cases e
/-- a list of one's own is given away: it never changes any more -/
theorem Rel.freeze {xs : List PyData} (R : Rel K B G δ σ H) (h : δ[i]? = some (.ol a xs)) :
    ∃ vs, H a = some (.lst vs) ∧ DnL K G vs xs ∧ σ[i]? = some (some (.ref a)) ∧ Same G (upd G a (.lst vs)) ∧ Rel K B (upd G a (.lst vs)) (δ.set i (.d (.list xs))) σ H ∧ Dn K (upd G a (.lst vs)) (.ref a) (.list xs) := by
  obtain ⟨o, hσ, rfl, vs, e, t⟩ := R.at h
  obtain ⟨ga, ba⟩ := R.fr i _ a h (by simp [Cell.fp])
  have sG : Same G (upd G a (.lst vs)) := same_new ga
  have dn : Dn K (upd G a (.lst vs)) (.ref a) (.list xs) := .lst upd_same (t.mono sG)
  have hi : i < δ.length := (List.getElem?_eq_some_iff.mp h).1
  have get : ∀ {j : Nat} {x : Cell}, (δ.set i (.d (.list xs)))[j]? = some x → (j = i ∧ x = .d (.list xs)) ∨ (j ≠ i ∧ δ[j]? = some x) := fun {j x} e => by
    by_cases hj : j = i
    · subst hj
      rw [List.getElem?_set_self hi] at e; cases e; exact .inl ⟨rfl, rfl⟩
    · rw [List.getElem?_set_ne (Ne.symm hj)] at e; exact .inr ⟨hj, e⟩
  refine ⟨vs, e, t, hσ, sG, ⟨by simp [R.len], fun b x q => ?_, R.sb, fun b => ?_, fun j x w e1 e2 => ?_, fun j k x y z e1 e2 m1 m2 => ?_, fun j x z e1 m => ?_, R.tt⟩, dn⟩
  · by_cases hb : b = a
    · subst hb; rw [upd_same] at q; cases q; exact e
    · rw [upd_ne hb] at q; exact R.sg _ _ q
  · by_cases hb : b = a
    · subst hb; exact .inr ba
    · rw [upd_ne hb]; exact R.dj b
  · rcases get e1 with ⟨rfl, rfl⟩ | ⟨hj, e1⟩
    · rw [hσ] at e2; cases e2; exact ⟨_, rfl, dn⟩
    · exact (R.ok j x w e1 e2).stay sG fun _ _ => rfl
  · rcases get e1 with ⟨_, rfl⟩ | ⟨h1, e1⟩
    · cases m1
    · rcases get e2 with ⟨_, rfl⟩ | ⟨h2, e2⟩
      · cases m2
      · exact R.ap j k x y z e1 e2 m1 m2
  · rcases get e1 with ⟨_, rfl⟩ | ⟨hj, e1⟩
    · cases m
    · obtain ⟨f1, f2⟩ := R.fr j x z e1 m
      refine ⟨?_, f2⟩
      rw [upd_ne (fun q => ?_)]
      · exact f1
      · subst q
        exact hj (R.ap j i x _ z e1 h m (by simp [Cell.fp]))
/-- a list of one's own is changed -/
theorem Rel.write {xs ys : List PyData} {ws : List V} (R : Rel K B G δ σ H) (h : δ[i]? = some (.ol a xs)) (t' : DnL K G ws ys) : Rel K B G (δ.set i (.ol a ys)) σ (upd H a (.lst ws)) := by
  obtain ⟨o, hσ, rfl, vs, e, t⟩ := R.at h
  obtain ⟨ga, ba⟩ := R.fr i _ a h (by simp [Cell.fp])
  have hi : i < δ.length := (List.getElem?_eq_some_iff.mp h).1
  have get : ∀ {j : Nat} {x : Cell}, (δ.set i (.ol a ys))[j]? = some x → (j = i ∧ x = .ol a ys) ∨ (j ≠ i ∧ δ[j]? = some x) := fun {j x} e => by
    by_cases hj : j = i
    · subst hj
      rw [List.getElem?_set_self hi] at e; cases e; exact .inl ⟨rfl, rfl⟩
    · rw [List.getElem?_set_ne (Ne.symm hj)] at e; exact .inr ⟨hj, e⟩
  refine ⟨by simp [R.len], fun b x q => ?_, fun b x q => ?_, R.dj, fun j x w e1 e2 => ?_, fun j k x y z e1 e2 m1 m2 => ?_, fun j x z e1 m => ?_, tabs_upd R.tt fun x e' => by rw [e] at e'; cases e'; exact notTE_lst⟩
  · rw [upd_ne (fun z => by rw [z, ga] at q; cases q)]; exact R.sg _ _ q
  · rw [upd_ne (fun z => by rw [z, ba] at q; cases q)]; exact R.sb _ _ q
  · rcases get e1 with ⟨rfl, rfl⟩ | ⟨hj, e1⟩
    · rw [hσ] at e2; cases e2; exact ⟨rfl, ws, upd_same, t'⟩
    · refine (R.ok j x w e1 e2).stay (Same.refl _) fun b hb => upd_ne fun q => ?_
      rw [q] at hb
      exact hj (R.ap j i x _ a e1 h hb (by simp [Cell.fp]))
  · rcases get e1 with ⟨h1, rfl⟩ | ⟨h1, e1⟩
    · rcases get e2 with ⟨h2, rfl⟩ | ⟨h2, e2⟩
      · rw [h1, h2]
      · exact h1.trans (R.ap i k _ y z h e2 (by simpa [Cell.fp] using m1) m2)
    · rcases get e2 with ⟨h2, rfl⟩ | ⟨h2, e2⟩
      · exact (R.ap j i x _ z e1 h m1 (by simpa [Cell.fp] using m2)).trans h2.symm
      · exact R.ap j k x y z e1 e2 m1 m2
  · rcases get e1 with ⟨_, rfl⟩ | ⟨hj, e1⟩
    · have : z = a := by simpa [Cell.fp] using m
      subst this; exact ⟨ga, ba⟩
    · exact R.fr j x z e1 m
end
end DL
set_option Elab.async false
set_option linter.all false
set_option maxRecDepth 100000
set_option maxHeartbeats 4000000
namespace DL
open PySem PySem.Spec PyProof.Rows L2
variable [Tb]

inductive Opd where
  | d (x : PyData)
  | s (i : Nat)
def OpdOk (K : PySem.W.Frag) (G : Hp) (σ : L2.St) (v : V) : Opd → Prop
  | .d x => Dn K G v x
  | .s i => σ[i]? = some (some v)
inductive OpdsOk (K : PySem.W.Frag) (G : Hp) (σ : L2.St) : List V → List Opd → Prop
  | nil : OpdsOk K G σ [] []
  | cons {v : V} {vs : List V} {o : Opd} {os : List Opd} (h : OpdOk K G σ v o) (t : OpdsOk K G σ vs os) : OpdsOk K G σ (v :: vs) (o :: os)
/-- data, or a list of one's own that is looked at -/
def Bor (K : PySem.W.Frag) (G H : Hp) (v : V) (x : PyData) : Prop := Dn K G v x ∨ ∃ a vs xs, v = .ref a ∧ x = .list xs ∧ H a = some (.lst vs) ∧ DnL K G vs xs
/-- looked at -/
def use (o : Opd) (δ : DS) (k : PyData → Prop) : Prop :=
  match o with
  | .d x => k x
  | .s i => match δ[i]? with
    | some (.d x) => k x
    | some (.ol _ xs) => k (.list xs)
    | _ => False
/-- given away -/
def lk (o : Opd) (δ : DS) (k : PyData → DS → Prop) : Prop :=
  match o with
  | .d x => k x δ
  | .s i => match δ[i]? with
    | some (.d x) => k x δ
    | some (.ol _ xs) => k (.list xs) (δ.set i (.d (.list xs)))
    | _ => False
def useL : List Opd → DS → (List PyData → Prop) → Prop
  | [], _, k => k []
  | o :: os, δ, k => use o δ fun x => useL os δ fun xs => k (x :: xs)
def lkL : List Opd → DS → (List PyData → DS → Prop) → Prop
  | [], δ, k => k [] δ
  | o :: os, δ, k => lk o δ fun x δ1 => lkL os δ1 fun xs δ2 => k (x :: xs) δ2
inductive BorL (K : PySem.W.Frag) (G H : Hp) : List V → List PyData → Prop
  | nil : BorL K G H [] []
  | cons {v : V} {vs : List V} {d : PyData} {ds : List PyData} (h : Bor K G H v d) (t : BorL K G H vs ds) : BorL K G H (v :: vs) (d :: ds)
section
variable {K : PySem.W.Frag} {B G G' H H' : Hp} {δ δ' : DS} {σ : L2.St} {v : V} {o : Opd} {x : PyData}
theorem OpdOk.mono (s : Same G G') (h : OpdOk K G σ v o) : OpdOk K G' σ v o := by
  cases o with
  | d x => exact Dn.mono s x h
  | s i => exact h
theorem OpdsOk.mono (s : Same G G') : ∀ {vs : List V} {os : List Opd}, OpdsOk K G σ vs os → OpdsOk K G' σ vs os
  | _, [], h => by cases h; exact .nil
  | _, o :: os, h => by cases h with | cons a b => exact .cons (a.mono s) (OpdsOk.mono s b)
theorem Bor.dn (R : Rel K B G δ σ H) (h : Bor K G H v x) : Dn K H v x := by
  rcases h with h | ⟨a, vs, xs, rfl, rfl, e, t⟩
  · exact h.mono R.sg
  · exact .lst e (t.mono R.sg)
theorem use_ok {k : PyData → Prop} (R : Rel K B G δ σ H) (ok : OpdOk K G σ v o) (h : use o δ k) : ∃ x, k x ∧ Bor K G H v x := by
  cases o with
  | d x => exact ⟨x, h, .inl ok⟩
  | s i =>
    have ok : σ[i]? = some (some v) := ok
    unfold use at h
    simp only at h
    cases e : δ[i]? with
    | none => rw [e] at h; exact h.elim
    | some c =>
      rw [e] at h
      obtain ⟨w, hw, co⟩ := R.at e
      rw [ok] at hw; cases hw
      cases c with
      | em => exact h.elim
      | dk a b c => exact h.elim
      | scr a ns => exact h.elim
      | xc a cls d x => exact h.elim
      | ob a n fs => exact h.elim
      | od a kvs => exact h.elim
      | dx a b c xs n ys => exact h.elim
      | d x =>
        obtain ⟨v', e', q⟩ := co
        cases e'
        exact ⟨x, h, .inl q⟩
      | ol a xs =>
        obtain ⟨e', vs, q, t⟩ := co
        cases e'
        exact ⟨_, h, .inr ⟨a, vs, xs, rfl, rfl, q, t⟩⟩
theorem lk_ok {k : PyData → DS → Prop} (R : Rel K B G δ σ H) (ok : OpdOk K G σ v o) (h : lk o δ k) : ∃ G' δ' x, k x δ' ∧ Same G G' ∧ Rel K B G' δ' σ H ∧ Dn K G' v x := by
  cases o with
  | d x => exact ⟨G, δ, x, h, Same.refl _, R, ok⟩
  | s i =>
    have ok : σ[i]? = some (some v) := ok
    unfold lk at h
    simp only at h
    cases e : δ[i]? with
    | none => rw [e] at h; exact h.elim
    | some c =>
      rw [e] at h
      cases c with
      | em => exact h.elim
      | dk a b c => exact h.elim
      | scr a ns => exact h.elim
      | xc a cls d x => exact h.elim
      | ob a n fs => exact h.elim
      | od a kvs => exact h.elim
      | dx a b c xs n ys => exact h.elim
      | d x =>
        obtain ⟨w, hw, co⟩ := R.at e
        rw [ok] at hw; cases hw
        obtain ⟨v', e', q⟩ := co
        cases e'
        exact ⟨G, δ, x, h, Same.refl _, R, q⟩
      | ol a xs =>
        obtain ⟨vs, q1, q2, q3, q4, q5, q6⟩ := R.freeze e
        rw [ok] at q3; cases q3
        exact ⟨_, _, _, h, q4, q5, q6⟩
theorem useL_ok (R : Rel K B G δ σ H) : ∀ {vs : List V} {os : List Opd} {k : List PyData → Prop}, OpdsOk K G σ vs os → useL os δ k → ∃ xs, k xs ∧ BorL K G H vs xs
  | _, [], _, h, q => by cases h; exact ⟨[], q, .nil⟩
  | _, o :: os, k, h, q => by
    cases h with
    | cons a b =>
      obtain ⟨x, q1, b1⟩ := use_ok R a q
      obtain ⟨xs, q2, b2⟩ := useL_ok R b q1
      exact ⟨x :: xs, q2, .cons b1 b2⟩
theorem lkL_ok : ∀ {vs : List V} {os : List Opd} {G : Hp} {δ : DS} {k : List PyData → DS → Prop}, Rel K B G δ σ H → OpdsOk K G σ vs os → lkL os δ k → ∃ G' δ' xs, k xs δ' ∧ Same G G' ∧ Rel K B G' δ' σ H ∧ DnL K G' vs xs
  | _, [], G, δ, _, R, h, q => by cases h; exact ⟨G, δ, [], q, Same.refl _, R, .nil⟩
  | _, o :: os, G, δ, k, R, h, q => by
    cases h with
    | cons a b =>
      obtain ⟨G1, δ1, x, q1, s1, R1, d1⟩ := lk_ok R a q
      obtain ⟨G2, δ2, xs, q2, s2, R2, d2⟩ := lkL_ok R1 (b.mono s1) q1
      exact ⟨G2, δ2, x :: xs, q2, s1.trans s2, R2, .cons (d1.mono s2) d2⟩
end

abbrev DE := DS → (Opd → DS → Prop) → Prop
abbrev DT := DS → (Bool → DS → Prop) → Prop
abbrev DA := DS → (List Opd → DS → Prop) → Prop
abbrev DL := DS → (List PyData → DS → Prop) → Prop
def up (K : PySem.W.Frag) (w : DE) : TE := fun σ H Q => ∃ B G δ R, Rel K B G δ σ H ∧ w δ R ∧ ∀ v H' G' o δ', R o δ' → Same G G' → Rel K B G' δ' σ H' → OpdOk K G' σ v o → Q v H'
def upT (K : PySem.W.Frag) (w : DT) : TT := fun σ H Q => ∃ B G δ R, Rel K B G δ σ H ∧ w δ R ∧ ∀ b H' G' δ', R b δ' → Same G G' → Rel K B G' δ' σ H' → Q b H'
def upA (K : PySem.W.Frag) (w : DA) : TA := fun σ H Q => ∃ B G δ R, Rel K B G δ σ H ∧ w δ R ∧ ∀ vs H' G' os δ', R os δ' → Same G G' → Rel K B G' δ' σ H' → OpdsOk K G' σ vs os → Q vs H'
/-- a fresh list, in nobody's hands yet -/
def upL (K : PySem.W.Frag) (w : DL) : TE := fun σ H Q => ∃ B G δ R, Rel K B G δ σ H ∧ w δ R ∧ ∀ a vs H' G' xs δ', R xs δ' → Same G G' → Rel K (upd B a (.lst vs)) G' δ' σ H' → B a = none → DnL K G' vs xs → Q (.ref a) H'
abbrev JE (X : Cx) (e : Expr) (w : DE) : Prop := PE X e (up X.K w)
abbrev JT (X : Cx) (e : Expr) (w : DT) : Prop := PT X e (upT X.K w)
abbrev JW (X : Cx) (e : Expr) (w : DT) : Prop := PW X e (upT X.K w)
abbrev JA (X : Cx) (es : List Expr) (w : DA) : Prop := PA X es (upA X.K w)
abbrev JL (X : Cx) (e : Expr) (w : DL) : Prop := PE X e (upL X.K w)
section
variable {X : Cx} {e a b c : Expr} {es : List Expr} {pos : Pos}
theorem pe_le {t t' : TE} (h : PE X e t) (l : ∀ pins s σ H Q, Inv X pins σ H s → t' σ H Q → t σ H Q) : PE X e t' := ⟨fun pins s σ H Q I q => h.run pins s σ H Q I (l pins s σ H Q I q)⟩
theorem pt_le {t t' : TT} (h : PT X e t) (l : ∀ pins s σ H Q, Inv X pins σ H s → t' σ H Q → t σ H Q) : PT X e t' := ⟨fun pins s σ H Q I q => h.run pins s σ H Q I (l pins s σ H Q I q)⟩
theorem pw_le {t t' : TT} (h : PW X e t) (l : ∀ pins s σ H Q, Inv X pins σ H s → t' σ H Q → t σ H Q) : PW X e t' := ⟨fun wh pins s σ H Q I q => h.run wh pins s σ H Q I (l pins s σ H Q I q)⟩
theorem pa_le {t t' : TA} (h : PA X es t) (l : ∀ pins s σ H Q, Inv X pins σ H s → t' σ H Q → t σ H Q) : PA X es t' := ⟨fun pos pins s σ H Q I q => h.run pos pins s σ H Q I (l pins s σ H Q I q)⟩
/-- a fresh list is given away at once -/
def wOfL (w : DL) : DE := fun δ R => w δ fun xs δ' => R (.d (.list xs)) δ'
theorem je_ofL {w : DL} (h : JL X e w) : JE X e (wOfL w) := pe_le h fun pins s σ H Q I ⟨B, G, δ, R, rel, hw, k⟩ => by
  refine ⟨B, G, δ, _, rel, hw, fun a vs H' G' xs δ' r sG rel' hB t => ?_⟩
  obtain ⟨rel2, s2⟩ := rel'.takeB (p := a) hB (fun b hb => (upd_ne hb).symm) upd_same
  exact k _ H' _ _ _ r (sG.trans s2) rel2 (Dn.lst upd_same (t.mono s2))

def wVar (i : Nat) : DE := fun δ R => match δ[i]? with
  | some (.d x) => R (.d x) δ
  | some .em => False
  | none => False
  | _ => R (.s i) δ
theorem je_var {i : Nat} {x : Str} (h : PE X (.Name x pos) (tVar i)) : JE X (.Name x pos) (wVar i) := pe_le h fun pins s σ H Q I ⟨B, G, δ, R, rel, hw, k⟩ => by
  unfold wVar at hw
  cases e : δ[i]? with
  | none => rw [e] at hw; exact hw.elim
  | some c =>
    rw [e] at hw
    obtain ⟨w, hw', co⟩ := rel.at e
    cases c with
    | em => exact hw.elim
    | d x =>
      obtain ⟨v, rfl, q⟩ := co
      exact ⟨v, hw', k v H G _ _ hw (Same.refl _) rel q⟩
    | ol a xs =>
      obtain ⟨rfl, _⟩ := co
      exact ⟨_, hw', k _ H G _ _ hw (Same.refl _) rel hw'⟩
    | dk a b c =>
      obtain ⟨rfl, _⟩ := co
      exact ⟨_, hw', k _ H G _ _ hw (Same.refl _) rel hw'⟩
    | ob a n fs =>
      obtain ⟨rfl, _⟩ := co
      exact ⟨_, hw', k _ H G _ _ hw (Same.refl _) rel hw'⟩
    | xc a cls d x =>
      obtain ⟨rfl, _⟩ := co
      exact ⟨_, hw', k _ H G _ _ hw (Same.refl _) rel hw'⟩
    | scr a ns =>
      obtain ⟨rfl, _⟩ := co
      exact ⟨_, hw', k _ H G _ _ hw (Same.refl _) rel hw'⟩
    | od a kvs =>
      obtain ⟨rfl, _⟩ := co
      exact ⟨_, hw', k _ H G _ _ hw (Same.refl _) rel hw'⟩
    | dx a b c xs n ys =>
      obtain ⟨rfl, _⟩ := co
      exact ⟨_, hw', k _ H G _ _ hw (Same.refl _) rel hw'⟩
def wC (x : PyData) : DE := fun δ R => R (.d x) δ
theorem je_c {v : V} {x : PyData} (h : PE X e (tC v)) (hv : ∀ K G, Dn K G v x) : JE X e (wC x) := pe_le h fun pins s σ H Q I ⟨B, G, δ, R, rel, hw, k⟩ => k v H G _ _ hw (Same.refl _) rel (hv _ _)
theorem je_int {i j} : JE X (.Constant (.int i) j pos) (wC (.int i)) := je_c pe_int fun _ _ => .int i
theorem je_bl {i j} : JE X (.Constant (.bool i) j pos) (wC (.bool i)) := je_c pe_bl fun _ _ => .bl i
theorem je_non {j} : JE X (.Constant .none j pos) (wC .none) := je_c pe_non fun _ _ => .non

def wNil : DA := fun δ R => R [] δ
def wCons (w : DE) (r : DA) : DA := fun δ R => w δ fun o δ1 => r δ1 fun os δ2 => R (o :: os) δ2
theorem ja_nil : JA X [] wNil := pa_le pa_nil fun pins s σ H Q I ⟨B, G, δ, R, rel, hw, k⟩ => k [] H G _ _ hw (Same.refl _) rel .nil
theorem ja_cons {w : DE} {r : DA} (ha : JE X e w) (hr : JA X es r) (hs : starEach (e :: es) X.env = (false, eval e X.env) :: starEach es X.env := by rfl) : JA X (e :: es) (wCons w r) :=
  pa_le (pa_cons ha hr hs) fun pins s σ H Q I ⟨B, G, δ, R, rel, hw, k⟩ =>
    ⟨B, G, δ, _, rel, hw, fun v H1 G1 o δ1 r1 s1 rel1 ok1 => ⟨B, G1, δ1, _, rel1, r1, fun vs H2 G2 os δ2 r2 s2 rel2 ok2 => k (v :: vs) H2 G2 _ _ r2 (s1.trans s2) rel2 (.cons (ok1.mono s2) ok2)⟩⟩

abbrev P2 := PyData → PyData → (PyData → Prop) → Prop
abbrev PN := List PyData → (PyData → Prop) → Prop
def rOf (K : PySem.W.Frag) (p : P2) : R2 := fun x y H Q => ∃ B G δ σ dx dy R, Rel K B G δ σ H ∧ Bor K G H x dx ∧ Bor K G H y dy ∧ p dx dy R ∧ ∀ v H' G' z, R z → Same G G' → Rel K B G' δ σ H' → Dn K G' v z → Q v H'
abbrev OpD (X : Cx) (f : Value → Value → Sem Value) (p : P2) : Prop := OpR X f (rOf X.K p)
def wOp (p : P2) (wa wb : DE) : DE := fun δ R => wa δ fun o1 δ1 => wb δ1 fun o2 δ2 => use o1 δ2 fun x => use o2 δ2 fun y => p x y fun z => R (.d z) δ2
theorem op_up {p : P2} {wa wb : DE} {K : PySem.W.Frag} {σ : L2.St} {H : Hp} {Q : VK} (h : up K (wOp p wa wb) σ H Q) : tOp (rOf K p) (up K wa) (up K wb) σ H Q := by
  obtain ⟨B, G, δ, R, rel, hw, k⟩ := h
  refine ⟨B, G, δ, _, rel, hw, fun v H1 G1 o1 δ1 r1 s1 rel1 ok1 => ⟨B, G1, δ1, _, rel1, r1, fun u H2 G2 o2 δ2 r2 s2 rel2 ok2 => ?_⟩⟩
  obtain ⟨x, q1, b1⟩ := use_ok rel2 (ok1.mono s2) r2
  obtain ⟨y, q2, b2⟩ := use_ok rel2 ok2 q1
  exact ⟨B, G2, δ2, σ, x, y, _, rel2, b1, b2, q2, fun v' H' G' z rz s3 rel3 dz => k v' H' G' _ _ rz (s1.trans (s2.trans s3)) rel3 dz⟩
theorem je_op {p : P2} {op : Operator} {wa wb : DE} (ho : OpD X (binaryOp op) p) (ha : JE X a wa) (hb : JE X b wb) : JE X (.BinOp a op b pos) (wOp p wa wb) :=
  pe_le (pe_op ho ha hb) fun _ _ _ _ _ _ h => op_up h
theorem je_cmp {p : P2} {op : CmpOp} {wa wb : DE} (ho : OpD X (compareOp op) p) (ha : JE X a wa) (hb : JE X b wb) (hm : behindInMarks op b = false := by rfl) : JE X (.Compare a [op] [b] pos) (wOp p wa wb) :=
  pe_le (pe_cmpR ho ha hb hm) fun _ _ _ _ _ _ h => op_up h
/-- a test by a value that is True or False -/
def wB (w : DE) : DT := fun δ R => w δ fun o δ1 => use o δ1 fun x => ∃ b, x = .bool b ∧ R b δ1
theorem dn_bool {K : PySem.W.Frag} {G : Hp} {v : V} {b : Bool} (h : Dn K G v (.bool b)) : v = .bl b := by cases h; rfl
theorem dn_int {K : PySem.W.Frag} {G : Hp} {v : V} {b : Int} (h : Dn K G v (.int b)) : v = .int b := by cases h; rfl
theorem dn_str {K : PySem.W.Frag} {G : Hp} {v : V} {b : Str} (h : Dn K G v (.str b)) : v = .str b := by cases h; rfl
theorem dn_none {K : PySem.W.Frag} {G : Hp} {v : V} (h : Dn K G v .none) : v = .non := by cases h; rfl
theorem bor_bool {K : PySem.W.Frag} {G H : Hp} {v : V} {b : Bool} (h : Bor K G H v (.bool b)) : v = .bl b := by
  rcases h with h | ⟨_, _, _, _, e, _⟩
  · exact dn_bool h
  · cases e
theorem bor_int {K : PySem.W.Frag} {G H : Hp} {v : V} {b : Int} (h : Bor K G H v (.int b)) : v = .int b := by
  rcases h with h | ⟨_, _, _, _, e, _⟩
  · exact dn_int h
  · cases e
theorem bor_str {K : PySem.W.Frag} {G H : Hp} {v : V} {b : Str} (h : Bor K G H v (.str b)) : v = .str b := by
  rcases h with h | ⟨_, _, _, _, e, _⟩
  · exact dn_str h
  · cases e
theorem bor_none {K : PySem.W.Frag} {G H : Hp} {v : V} (h : Bor K G H v .none) : v = .non := by
  rcases h with h | ⟨_, _, _, _, e, _⟩
  · exact dn_none h
  · cases e
theorem bor_tup {K : PySem.W.Frag} {G H : Hp} {v : V} {ds : List PyData} (h : Bor K G H v (.tuple ds)) : ∃ a vs, v = .ref a ∧ SqT K G a vs ∧ DnL K G vs ds := by
  rcases h with h | ⟨_, _, _, _, e, _⟩
  · cases h with | tup h t => exact ⟨_, _, rfl, SqT.of h, t⟩
  · cases e
theorem bor_tupS {K : PySem.W.Frag} {G H : Hp} {v : V} {ds : List PyData} (h : Bor K G H v (.tuple ds)) : ∃ a vs, v = .ref a ∧ G a = some (.tup vs) ∧ DnL K G vs ds := by
  rcases h with h | ⟨_, _, _, _, e, _⟩
  · cases h with | tup h t => exact ⟨_, _, rfl, h, t⟩
  · cases e
/-- a list: its items stand for what never changes; it can be read where the heap stands now -/
theorem bor_lst {K : PySem.W.Frag} {B G H : Hp} {δ : DS} {σ : L2.St} {v : V} {ds : List PyData} (R : Rel K B G δ σ H) (h : Bor K G H v (.list ds)) : ∃ a vs, v = .ref a ∧ H a = some (.lst vs) ∧ DnL K G vs ds := by
  rcases h with h | ⟨a, vs, xs, rfl, e, q, t⟩
  · cases h with | lst h t => exact ⟨_, _, rfl, R.sg _ _ h, t⟩
  · cases e; exact ⟨a, vs, rfl, q, t⟩
theorem b_up {w : DE} {K : PySem.W.Frag} {σ : L2.St} {H : Hp} {Q : Bool → Hp → Prop} (h : upT K (wB w) σ H Q) : up K w σ H fun x H1 => ∃ c, x = .bl c ∧ Q c H1 := by
  obtain ⟨B, G, δ, R, rel, hw, k⟩ := h
  refine ⟨B, G, δ, _, rel, hw, fun v H1 G1 o1 δ1 r1 s1 rel1 ok1 => ?_⟩
  obtain ⟨x, ⟨b, rfl, q⟩, b1⟩ := use_ok rel1 ok1 r1
  exact ⟨b, bor_bool b1, k b H1 G1 _ q s1 rel1⟩
theorem jt_val {w : DE} (h : JE X e w) (he : ∀ whole, isTrue e X.env whole = (do let v ← whole; standAt e.pos; holding [v] (truthy v)) := by intro _; rfl) : JT X e (wB w) :=
  pt_le (pt_val h he) fun _ _ _ _ _ _ h => b_up h
theorem jt_cmp {p : P2} {op : CmpOp} {wa wb : DE} (ho : OpD X (compareOp op) p) (ha : JE X a wa) (hb : JE X b wb) (hm : behindInMarks op b = false := by rfl) : JT X (.Compare a [op] [b] pos) (wB (wOp p wa wb)) :=
  pt_le (pt_cmpR ho ha hb hm) fun _ _ _ _ _ _ h => by
    have h2 := b_up h
    exact op_up h2
def wChain (p q : P2) (wa wb wc : DE) : DE := fun δ R => wa δ fun o1 δ1 => wb δ1 fun o2 δ2 => use o1 δ2 fun x => use o2 δ2 fun y => p x y fun z => ∃ k, z = .bool k ∧
  if k = true then wc δ2 fun o3 δ3 => use o2 δ3 fun y => use o3 δ3 fun w => q y w fun z => R (.d z) δ3 else R (.d (.bool false)) δ2
theorem chain_up {p q : P2} {wa wb wc : DE} {K : PySem.W.Frag} {σ : L2.St} {H : Hp} {Q : VK} (h : up K (wChain p q wa wb wc) σ H Q) : tChain (rOf K p) (rOf K q) (up K wa) (up K wb) (up K wc) σ H Q := by
  obtain ⟨B, G, δ, R, rel, hw, k⟩ := h
  refine ⟨B, G, δ, _, rel, hw, fun v H1 G1 o1 δ1 r1 s1 rel1 ok1 => ⟨B, G1, δ1, _, rel1, r1, fun u H2 G2 o2 δ2 r2 s2 rel2 ok2 => ?_⟩⟩
  obtain ⟨x, q1, b1⟩ := use_ok rel2 (ok1.mono s2) r2
  obtain ⟨y, q2, b2⟩ := use_ok rel2 ok2 q1
  refine ⟨B, G2, δ2, σ, x, y, _, rel2, b1, b2, q2, fun v' H' G' z rz s3 rel3 dz => ?_⟩
  obtain ⟨kb, rfl, rz⟩ := rz
  refine ⟨kb, dn_bool dz, ?_⟩
  cases kb with
  | false =>
    rw [if_neg Bool.false_ne_true] at rz ⊢
    exact k _ H' G' _ _ rz (s1.trans (s2.trans s3)) rel3 (Dn.bl false)
  | true =>
    rw [if_pos rfl] at rz ⊢
    refine ⟨B, G', δ2, _, rel3, rz, fun w H4 G4 o3 δ4 r4 s4 rel4 ok4 => ?_⟩
    obtain ⟨y', q3, b3⟩ := use_ok rel4 (ok2.mono (s3.trans s4)) r4
    obtain ⟨w', q4, b4⟩ := use_ok rel4 ok4 q3
    exact ⟨B, G4, δ4, σ, y', w', _, rel4, b3, b4, q4, fun v' H' G5 z rz s5 rel5 dz => k v' H' G5 _ _ rz (s1.trans (s2.trans (s3.trans (s4.trans s5)))) rel5 dz⟩
theorem je_chain {p q : P2} {op op' : CmpOp} {wa wb wc : DE} (ho : OpD X (compareOp op) p) (ho' : OpD X (compareOp op') q) (ha : JE X a wa) (hb : JE X b wb) (hc : JE X c wc) (hm : lastMarks [op, op'] [b, c] = false := by rfl) : JE X (.Compare a [op, op'] [b, c] pos) (wChain p q wa wb wc) :=
  pe_le (pe_chain ho ho' ha hb hc (hm := hm)) fun _ _ _ _ _ _ h => chain_up h
variable {rest : List Expr}
def wAnd (t u : DT) : DT := fun δ R => t δ fun k δ1 => if k = true then u δ1 R else R false δ1
def wOr (t u : DT) : DT := fun δ R => t δ fun k δ1 => if k = true then R true δ1 else u δ1 R
def wNot (t : DT) : DT := fun δ R => t δ fun k δ1 => R (!k) δ1
theorem jw_and1 {t : DT} (h : JT X a t) : JW X (.BoolOp .And [a] pos) t := pw_and1 h
theorem jw_or1 {t : DT} (h : JT X a t) : JW X (.BoolOp .Or [a] pos) t := pw_or1 h
theorem jw_and {t u : DT} (ha : JT X a t) (hb : JW X (.BoolOp .And (b :: rest) pos) u) : JW X (.BoolOp .And (a :: b :: rest) pos) (wAnd t u) :=
  pw_le (pw_and ha hb) fun pins s σ H Q I ⟨B, G, δ, R, rel, hw, k⟩ => ⟨B, G, δ, _, rel, hw, fun c H1 G1 δ1 r1 s1 rel1 => by
    cases c with
    | true => rw [if_pos rfl] at r1 ⊢; exact ⟨B, G1, δ1, _, rel1, r1, fun b H2 G2 δ2 r2 s2 rel2 => k b H2 G2 δ2 r2 (s1.trans s2) rel2⟩
    | false => rw [if_neg Bool.false_ne_true] at r1 ⊢; exact k false H1 G1 δ1 r1 s1 rel1⟩
theorem jw_or {t u : DT} (ha : JT X a t) (hb : JW X (.BoolOp .Or (b :: rest) pos) u) : JW X (.BoolOp .Or (a :: b :: rest) pos) (wOr t u) :=
  pw_le (pw_or ha hb) fun pins s σ H Q I ⟨B, G, δ, R, rel, hw, k⟩ => ⟨B, G, δ, _, rel, hw, fun c H1 G1 δ1 r1 s1 rel1 => by
    cases c with
    | false => rw [if_neg Bool.false_ne_true] at r1 ⊢; exact ⟨B, G1, δ1, _, rel1, r1, fun b H2 G2 δ2 r2 s2 rel2 => k b H2 G2 δ2 r2 (s1.trans s2) rel2⟩
    | true => rw [if_pos rfl] at r1 ⊢; exact k true H1 G1 δ1 r1 s1 rel1⟩
theorem jt_w {t : DT} (h : JW X e t) : JT X e t := PW.pt h
theorem jt_not {t : DT} (h : JT X a t) : JT X (.UnaryOp .Not a pos) (wNot t) :=
  pt_le (pt_not h) fun pins s σ H Q I ⟨B, G, δ, R, rel, hw, k⟩ => ⟨B, G, δ, _, rel, hw, fun c H1 G1 δ1 r1 s1 rel1 => k (!c) H1 G1 δ1 r1 s1 rel1⟩
/-- .. as values, True and False alone -/
def wAndV (w u : DE) : DE := fun δ R => w δ fun o δ1 => use o δ1 fun x => ∃ k, x = .bool k ∧ if k = true then u δ1 R else R (.d (.bool false)) δ1
def wOrV (w u : DE) : DE := fun δ R => w δ fun o δ1 => use o δ1 fun x => ∃ k, x = .bool k ∧ if k = true then R (.d (.bool true)) δ1 else u δ1 R
def wNotV (w : DE) : DE := fun δ R => w δ fun o δ1 => use o δ1 fun x => ∃ k, x = .bool k ∧ R (.d (.bool (!k))) δ1
theorem je_one {op} {w : DE} (h : JE X a w) : JE X (.BoolOp op [a] pos) w := pe_one h
theorem je_and {w u : DE} (ha : JE X a w) (hb : JE X (.BoolOp .And (b :: rest) pos) u) : JE X (.BoolOp .And (a :: b :: rest) pos) (wAndV w u) :=
  pe_le (pe_and ha hb) fun pins s σ H Q I ⟨B, G, δ, R, rel, hw, k⟩ => ⟨B, G, δ, _, rel, hw, fun v H1 G1 o δ1 r1 s1 rel1 ok1 => by
    obtain ⟨x, ⟨c, rfl, q⟩, b1⟩ := use_ok rel1 ok1 r1
    refine ⟨c, bor_bool b1, ?_⟩
    cases c with
    | true => rw [if_pos rfl] at q ⊢; exact ⟨B, G1, δ1, _, rel1, q, fun b H2 G2 o2 δ2 r2 s2 rel2 ok2 => k b H2 G2 o2 δ2 r2 (s1.trans s2) rel2 ok2⟩
    | false => rw [if_neg Bool.false_ne_true] at q ⊢; exact k _ H1 G1 _ δ1 q s1 rel1 (Dn.bl false)⟩
theorem je_or {w u : DE} (ha : JE X a w) (hb : JE X (.BoolOp .Or (b :: rest) pos) u) : JE X (.BoolOp .Or (a :: b :: rest) pos) (wOrV w u) :=
  pe_le (pe_or ha hb) fun pins s σ H Q I ⟨B, G, δ, R, rel, hw, k⟩ => ⟨B, G, δ, _, rel, hw, fun v H1 G1 o δ1 r1 s1 rel1 ok1 => by
    obtain ⟨x, ⟨c, rfl, q⟩, b1⟩ := use_ok rel1 ok1 r1
    refine ⟨c, bor_bool b1, ?_⟩
    cases c with
    | false => rw [if_neg Bool.false_ne_true] at q ⊢; exact ⟨B, G1, δ1, _, rel1, q, fun b H2 G2 o2 δ2 r2 s2 rel2 ok2 => k b H2 G2 o2 δ2 r2 (s1.trans s2) rel2 ok2⟩
    | true => rw [if_pos rfl] at q ⊢; exact k _ H1 G1 _ δ1 q s1 rel1 (Dn.bl true)⟩
theorem je_not {w : DE} (h : JE X a w) : JE X (.UnaryOp .Not a pos) (wNotV w) :=
  pe_le (pe_not h) fun pins s σ H Q I ⟨B, G, δ, R, rel, hw, k⟩ => ⟨B, G, δ, _, rel, hw, fun v H1 G1 o δ1 r1 s1 rel1 ok1 => by
    obtain ⟨x, ⟨c, rfl, q⟩, b1⟩ := use_ok rel1 ok1 r1
    exact ⟨c, bor_bool b1, k _ H1 G1 _ δ1 q s1 rel1 (Dn.bl _)⟩⟩
def wIfE (t : DT) (wa wb : DE) : DE := fun δ R => t δ fun k δ1 => if k = true then wa δ1 R else wb δ1 R
theorem je_ifE {t : DT} {wa wb : DE} (hc : JT X c t) (ha : JE X a wa) (hb : JE X b wb) : JE X (.IfExp c a b pos) (wIfE t wa wb) :=
  pe_le (pe_ifExp hc ha hb) fun pins s σ H Q I ⟨B, G, δ, R, rel, hw, k⟩ => ⟨B, G, δ, _, rel, hw, fun d H1 G1 δ1 r1 s1 rel1 => by
    cases d with
    | true => rw [if_pos rfl] at r1 ⊢; exact ⟨B, G1, δ1, _, rel1, r1, fun b H2 G2 o2 δ2 r2 s2 rel2 ok2 => k b H2 G2 o2 δ2 r2 (s1.trans s2) rel2 ok2⟩
    | false => rw [if_neg Bool.false_ne_true] at r1 ⊢; exact ⟨B, G1, δ1, _, rel1, r1, fun b H2 G2 o2 δ2 r2 s2 rel2 ok2 => k b H2 G2 o2 δ2 r2 (s1.trans s2) rel2 ok2⟩⟩
def pNeg (x : PyData) (R : PyData → Prop) : Prop := match x with
  | .int i => R (.int (-i))
  | _ => False
def wUn (p : PyData → (PyData → Prop) → Prop) (w : DE) : DE := fun δ R => w δ fun o δ1 => use o δ1 fun x => p x fun z => R (.d z) δ1
def wTup (w : DA) : DE := fun δ R => w δ fun os δ1 => lkL os δ1 fun xs δ2 => xs.length ≤ 1000 ∧ R (.d (.tuple xs)) δ2
def wLst (w : DA) : DL := fun δ R => w δ fun os δ1 => lkL os δ1 fun xs δ2 => xs.length ≤ 1000 ∧ R xs δ2
theorem le_line {n : Nat} (h : n ≤ 1000) : n ≤ sizeLine := by rw [sizeLine_eq]; omega
theorem je_tup {w : DA} {x1} (h : JA X es w) : JE X (.Tuple es x1 pos) (wTup w) :=
  pe_le (pe_tup h) fun pins s σ H Q I ⟨B, G, δ, R, rel, hw, k⟩ => ⟨B, G, δ, _, rel, hw, fun vs H1 G1 os δ1 r1 s1 rel1 ok1 => by
    obtain ⟨G2, δ2, xs, ⟨hl, q⟩, s2, rel2, t⟩ := lkL_ok rel1 ok1 r1
    refine ⟨by rw [t.len]; exact le_line hl, fun p np => ?_⟩
    obtain ⟨rel3, s3⟩ := rel2.laid (o := .tup vs) np
    exact k _ _ _ _ _ q (s1.trans (s2.trans s3)) rel3 (Dn.tup upd_same (t.mono s3))⟩
theorem jl_lst {w : DA} (h : JA X es w) : JL X (.List es pos) (wLst w) :=
  pe_le (pe_lst h) fun pins s σ H Q I ⟨B, G, δ, R, rel, hw, k⟩ => ⟨B, G, δ, _, rel, hw, fun vs H1 G1 os δ1 r1 s1 rel1 ok1 => by
    obtain ⟨G2, δ2, xs, ⟨hl, q⟩, s2, rel2, t⟩ := lkL_ok rel1 ok1 r1
    refine ⟨by rw [t.len]; exact le_line hl, fun p np => ?_⟩
    exact k p vs _ _ _ _ q (s1.trans s2) (rel2.growB np) (rel2.freeB np) t⟩
/-- {} -/
def wDic : DE := fun δ R => R (.d (.dict [])) δ
def rOfN (K : PySem.W.Frag) (p : PN) : List V → Hp → VK → Prop := fun vs H Q => ∃ B G δ σ ds R, Rel K B G δ σ H ∧ BorL K G H vs ds ∧ p ds R ∧ ∀ v H' G' z, R z → Same G G' → Rel K B G' δ σ H' → Dn K G' v z → Q v H'
abbrev CallD (X : Cx) (f : Value) (p : PN) : Prop := CallR X f (rOfN X.K p)
def wFn (p : PN) (w : DA) : DE := fun δ R => w δ fun os δ1 => useL os δ1 fun xs => p xs fun z => R (.d z) δ1
theorem fn_up {p : PN} {w : DA} {K : PySem.W.Frag} {σ : L2.St} {H : Hp} {Q : VK} (h : up K (wFn p w) σ H Q) : tCB (rOfN K p) (upA K w) σ H Q := by
  obtain ⟨B, G, δ, R, rel, hw, k⟩ := h
  refine ⟨B, G, δ, _, rel, hw, fun vs H1 G1 os δ1 r1 s1 rel1 ok1 => ?_⟩
  obtain ⟨xs, q, b⟩ := useL_ok rel1 ok1 r1
  exact ⟨B, G1, δ1, σ, xs, _, rel1, b, q, fun v H' G' z rz s2 rel2 dz => k v H' G' _ _ rz (s1.trans s2) rel2 dz⟩
theorem je_fn {p : PN} {w : DA} {id : String} {x : Str} {px : Pos} (hc : CallD X (.builtin id) p) (hg : Gl X x) (hm : X.mg x = none) (hv : bootBuiltins x = some (.builtin id)) (ha : JA X (e :: es) w) (hn : x ≠ "__name__" := by decide) (hdb : (x == ("__debug__" : Str)) = false := by decide)
    (he : starEach (e :: es) X.env = (false, eval e X.env) :: starEach es X.env := by rfl) (hpl : (backTo pos (starEach es X.env)).any (·.1) = false := by rfl) : JE X (.Call (.Name x px) (e :: es) [] pos) (wFn p w) :=
  pe_le (pe_callB hc hg hm hv ha hn hdb he hpl) fun _ _ _ _ _ _ h => fn_up h
theorem je_ty {p : PN} {w : DA} {T : String} {x : Str} {px : Pos} (hc : CallD X (.type T) p) (hg : Gl X x) (hm : X.mg x = none) (hv : bootBuiltins x = some (.type T)) (ha : JA X (e :: es) w) (hn : x ≠ "__name__" := by decide) (hdb : (x == ("__debug__" : Str)) = false := by decide)
    (he : starEach (e :: es) X.env = (false, eval e X.env) :: starEach es X.env := by rfl) (hpl : (backTo pos (starEach es X.env)).any (·.1) = false := by rfl) : JE X (.Call (.Name x px) (e :: es) [] pos) (wFn p w) :=
  pe_le (pe_callTy hc hg hm hv ha hn hdb he hpl) fun _ _ _ _ _ _ h => fn_up h
def rOfNL (K : PySem.W.Frag) (p : List PyData → (List PyData → Prop) → Prop) : List V → Hp → VK → Prop := fun vs H Q => ∃ B G δ σ ds R, Rel K B G δ σ H ∧ BorL K G H vs ds ∧ p ds R ∧ ∀ a ws H' G' z, R z → Same G G' → Rel K (upd B a (.lst ws)) G' δ σ H' → B a = none → DnL K G' ws z → Q (.ref a) H'
abbrev CallDL (X : Cx) (f : Value) (p : List PyData → (List PyData → Prop) → Prop) : Prop := CallR X f (rOfNL X.K p)
def wFnL (p : List PyData → (List PyData → Prop) → Prop) (w : DA) : DL := fun δ R => w δ fun os δ1 => useL os δ1 fun xs => p xs fun z => R z δ1
theorem fnL_up {p : List PyData → (List PyData → Prop) → Prop} {w : DA} {K : PySem.W.Frag} {σ : L2.St} {H : Hp} {Q : VK} (h : upL K (wFnL p w) σ H Q) : tCB (rOfNL K p) (upA K w) σ H Q := by
  obtain ⟨B, G, δ, R, rel, hw, k⟩ := h
  refine ⟨B, G, δ, _, rel, hw, fun vs H1 G1 os δ1 r1 s1 rel1 ok1 => ?_⟩
  obtain ⟨xs, q, b⟩ := useL_ok rel1 ok1 r1
  exact ⟨B, G1, δ1, σ, xs, _, rel1, b, q, fun a ws H' G' z rz s2 rel2 hB dz => k a ws H' G' _ _ rz (s1.trans s2) rel2 hB dz⟩
theorem jl_ty {p : List PyData → (List PyData → Prop) → Prop} {w : DA} {T : String} {x : Str} {px : Pos} (hc : CallDL X (.type T) p) (hg : Gl X x) (hm : X.mg x = none) (hv : bootBuiltins x = some (.type T)) (ha : JA X (e :: es) w) (hn : x ≠ "__name__" := by decide) (hdb : (x == ("__debug__" : Str)) = false := by decide)
    (he : starEach (e :: es) X.env = (false, eval e X.env) :: starEach es X.env := by rfl) (hpl : (backTo pos (starEach es X.env)).any (·.1) = false := by rfl) : JL X (.Call (.Name x px) (e :: es) [] pos) (wFnL p w) :=
  pe_le (pe_callTy hc hg hm hv ha hn hdb he hpl) fun _ _ _ _ _ _ h => fnL_up h
/-- xs + ys, xs * n -/
abbrev P2L := PyData → PyData → (List PyData → Prop) → Prop
def rOfL (K : PySem.W.Frag) (p : P2L) : R2 := fun x y H Q => ∃ B G δ σ dx dy R, Rel K B G δ σ H ∧ Bor K G H x dx ∧ Bor K G H y dy ∧ p dx dy R ∧ ∀ a ws H' G' z, R z → Same G G' → Rel K (upd B a (.lst ws)) G' δ σ H' → B a = none → DnL K G' ws z → Q (.ref a) H'
abbrev OpDL (X : Cx) (f : Value → Value → Sem Value) (p : P2L) : Prop := OpR X f (rOfL X.K p)
def wOpL (p : P2L) (wa wb : DE) : DL := fun δ R => wa δ fun o1 δ1 => wb δ1 fun o2 δ2 => use o1 δ2 fun x => use o2 δ2 fun y => p x y fun z => R z δ2
theorem opL_up {p : P2L} {wa wb : DE} {K : PySem.W.Frag} {σ : L2.St} {H : Hp} {Q : VK} (h : upL K (wOpL p wa wb) σ H Q) : tOp (rOfL K p) (up K wa) (up K wb) σ H Q := by
  obtain ⟨B, G, δ, R, rel, hw, k⟩ := h
  refine ⟨B, G, δ, _, rel, hw, fun v H1 G1 o1 δ1 r1 s1 rel1 ok1 => ⟨B, G1, δ1, _, rel1, r1, fun u H2 G2 o2 δ2 r2 s2 rel2 ok2 => ?_⟩⟩
  obtain ⟨x, q1, b1⟩ := use_ok rel2 (ok1.mono s2) r2
  obtain ⟨y, q2, b2⟩ := use_ok rel2 ok2 q1
  exact ⟨B, G2, δ2, σ, x, y, _, rel2, b1, b2, q2, fun a ws H' G' z rz s3 rel3 hB dz => k a ws H' G' _ _ rz (s1.trans (s2.trans s3)) rel3 hB dz⟩
theorem jl_op {p : P2L} {op : Operator} {wa wb : DE} (ho : OpDL X (binaryOp op) p) (ha : JE X a wa) (hb : JE X b wb) : JL X (.BinOp a op b pos) (wOpL p wa wb) :=
  pe_le (pe_op ho ha hb) fun _ _ _ _ _ _ h => opL_up h
abbrev IxD (X : Cx) (p : P2) : Prop := IxR X (rOf X.K p)
theorem je_ix {p : P2} {wa wb : DE} (hr : IxD X p) (ha : JE X a wa) (hb : JE X b wb) (hs : PlainIx b) : JE X (.Subscript a b pos) (wOp p wa wb) :=
  pe_le (pe_ix hr ha hb hs) fun _ _ _ _ _ _ h => op_up h
abbrev DO := DS → (Option Int → DS → Prop) → Prop
def upO (K : PySem.W.Frag) (w : DO) : TO := fun σ H Q => ∃ B G δ R, Rel K B G δ σ H ∧ w δ R ∧ ∀ i H' G' δ', R i δ' → Same G G' → Rel K B G' δ' σ H' → Q i H'
abbrev JO (X : Cx) (e : Option Expr) (w : DO) : Prop := PO X e (upO X.K w)
def wNoP : DO := fun δ R => R none δ
def wPart (w : DE) : DO := fun δ R => w δ fun o δ1 => use o δ1 fun x => ∃ i, x = .int i ∧ R (some i) δ1
theorem po_le {e : Option Expr} {t t' : TO} (h : PO X e t) (l : ∀ pins s σ H Q, Inv X pins σ H s → t' σ H Q → t σ H Q) : PO X e t' := ⟨fun pins s σ H Q I q => h.run pins s σ H Q I (l pins s σ H Q I q)⟩
theorem jo_none : JO X none wNoP := po_le po_none fun pins s σ H Q I ⟨B, G, δ, R, rel, hw, k⟩ => k none H G δ hw (Same.refl _) rel
theorem jo_some {w : DE} (h : JE X e w) : JO X (some e) (wPart w) := po_le (po_some h) fun pins s σ H Q I ⟨B, G, δ, R, rel, hw, k⟩ => ⟨B, G, δ, _, rel, hw, fun v H1 G1 o δ1 r1 s1 rel1 ok1 => by
  obtain ⟨x, ⟨i, rfl, q⟩, b⟩ := use_ok rel1 ok1 r1
  exact ⟨i, bor_int b, k _ H1 G1 δ1 q s1 rel1⟩⟩
abbrev P3 := PyData → Option Int → Option Int → (PyData → Prop) → Prop
def rOfS (K : PySem.W.Frag) (p : P3) : V → Option Int → Option Int → Hp → VK → Prop := fun x lo hi H Q => ∃ B G δ σ dx R, Rel K B G δ σ H ∧ Bor K G H x dx ∧ p dx lo hi R ∧ ∀ v H' G' z, R z → Same G G' → Rel K B G' δ σ H' → Dn K G' v z → Q v H'
def wSl (p : P3) (w : DE) (l h : DO) : DE := fun δ R => w δ fun o δ1 => l δ1 fun i δ2 => h δ2 fun j δ3 => use o δ3 fun x => p x i j fun z => R (.d z) δ3
theorem je_sl {p : P3} {w : DE} {l h : DO} {lo hi : Option Expr} {p2 : Pos} (hr : SlR X (rOfS X.K p)) (he : JE X e w) (hl : JO X lo l) (hh : JO X hi h) : JE X (.Subscript e (.Slice lo hi none p2) pos) (wSl p w l h) :=
  pe_le (pe_slice hr he hl hh) fun pins s σ H Q I ⟨B, G, δ, R, rel, hw, k⟩ => ⟨B, G, δ, _, rel, hw, fun v H1 G1 o δ1 r1 s1 rel1 ok1 => ⟨B, G1, δ1, _, rel1, r1, fun i H2 G2 δ2 r2 s2 rel2 => ⟨B, G2, δ2, _, rel2, r2, fun j H3 G3 δ3 r3 s3 rel3 => by
    obtain ⟨x, q, b⟩ := use_ok rel3 (ok1.mono (s2.trans s3)) r3
    exact ⟨B, G3, δ3, σ, x, _, rel3, b, q, fun v' H' G' z rz s4 rel4 dz => k v' H' G' _ _ rz (s1.trans (s2.trans (s3.trans s4))) rel4 dz⟩⟩⟩⟩
end
end DL
set_option Elab.async false
set_option linter.all false
set_option maxRecDepth 100000
set_option maxHeartbeats 4000000
namespace DL
open PySem PySem.Spec PyProof.Rows L2
variable [Tb]

mutual
theorem Dn.dp {K : PySem.W.Frag} {H : Hp} : ∀ (d : PyData) {v : V}, d.hasDict = false → Dn K H v d → Dp K H v d
  | .none, _, _, h => by cases h; exact .non
  | .bool b, _, _, h => by cases h; exact .bl b
  | .int i, _, _, h => by cases h; exact .int i
  | .str x, _, _, h => by cases h; exact .str x
  | .list ds, _, z, h => by cases h with | lst h t => exact .lst (SqL.of h) (DnL.dp ds (by simpa [PyData.hasDict] using z) t)
  | .tuple ds, _, z, h => by cases h with | tup h t => exact .tup (SqT.of h) (DnL.dp ds (by simpa [PyData.hasDict] using z) t)
  | .dict kvs, _, z, h => by simp [PyData.hasDict] at z
theorem DnL.dp {K : PySem.W.Frag} {H : Hp} : ∀ (ds : List PyData) {vs : List V}, PyData.hasDictAll ds = false → DnL K H vs ds → DpAll K H vs ds
  | [], _, _, h => by cases h; exact .nil
  | d :: ds, _, z, h => by
    have z' : d.hasDict = false ∧ PyData.hasDictAll ds = false := by simpa [PyData.hasDictAll] using z
    cases h with | cons a b => exact .cons (Dn.dp d z'.1 a) (DnL.dp ds z'.2 b)
end
theorem noDict_of_shaped {d : PyData} (h : SeqAt.shaped d = true) : d.hasDict = false := PyData.hasDict_of_canLay d (SeqAt.canLay_of_shaped h)

section
variable {X : Cx}
abbrev ints2 (f : Int → Int → (PyData → Prop) → Prop) : P2 := fun x y R => match x, y with
  | .int i, .int j => f i j R
  | _, _ => False
theorem opd_ints {f : Value → Value → Sem Value} {C : Int → Int → Prop} {g : Int → Int → Int} {p : Int → Int → (PyData → Prop) → Prop} (h : OpR X f (rI C fun i j => .int (g i j))) (hp : ∀ i j R, p i j R → C i j ∧ R (.int (g i j))) : OpD X f (ints2 p) := by
  intro pins s σ H x y v u Q I rx ry ⟨B, G, δ, σ', dx, dy, R, rel, bx, by', q, k⟩
  cases dx <;> cases dy <;> first | exact False.elim q | skip
  obtain ⟨c, r⟩ := hp _ _ _ q
  exact h pins s σ H x y v u Q I rx ry ⟨_, _, bor_int bx, bor_int by', c, k _ H G _ r (Same.refl _) rel (Dn.int _)⟩
theorem opd_ints0 {f : Value → Value → Sem Value} {g : Int → Int → Int} (h : OpR X f (rI0 fun i j => .int (g i j))) : OpD X f (ints2 fun i j R => R (.int (g i j))) := by
  intro pins s σ H x y v u Q I rx ry ⟨B, G, δ, σ', dx, dy, R, rel, bx, by', q, k⟩
  cases dx <;> cases dy <;> first | exact False.elim q | skip
  exact h pins s σ H x y v u Q I rx ry ⟨_, _, bor_int bx, bor_int by', k _ H G _ q (Same.refl _) rel (Dn.int _)⟩
theorem opd_bools {f : Value → Value → Sem Value} {g : Int → Int → Bool} (h : OpR X f (rI0 fun i j => .bl (g i j))) : OpD X f (ints2 fun i j R => R (.bool (g i j))) := by
  intro pins s σ H x y v u Q I rx ry ⟨B, G, δ, σ', dx, dy, R, rel, bx, by', q, k⟩
  cases dx <;> cases dy <;> first | exact False.elim q | skip
  exact h pins s σ H x y v u Q I rx ry ⟨_, _, bor_int bx, bor_int by', k _ H G _ q (Same.refl _) rel (Dn.bl _)⟩

def pSub : P2 := ints2 fun i j R => R (.int (i - j))
def pMul : P2 := fun x y R => match x, y with
  | .int i, .int j => (CMul i j ∨ CMulW i j) ∧ R (.int (i * j))
  | .list xs, .int k => 0 ≤ k ∧ xs.length * k.toNat ≤ 1000000 ∧ k < 1000000 ∧ R (.list (List.replicate k.toNat xs).flatten)
  | _, _ => False
def pDiv : P2 := ints2 fun i j R => (0 < j ∧ j.natAbs.log2 < 9000) ∧ R (.int (i / j))
def pMod : P2 := ints2 fun i j R => 0 < j ∧ R (.int (i % j))
def pPow : P2 := ints2 fun i j R => CPow i j ∧ R (.int (i ^ j.toNat))
def pShl : P2 := ints2 fun i j R => CPow i j ∧ R (.int (i * 2 ^ j.toNat))
def pAnd : P2 := ints2 fun i j R => R (.int (Builtin.bitAnd i j))
def pOr : P2 := ints2 fun i j R => R (.int (Builtin.bitOr i j))
def pLt : P2 := fun x y R => match x, y with
  | .int i, .int j => R (.bool (decide (i < j)))
  | _, _ => False
def pLe : P2 := ints2 fun i j R => R (.bool (decide (i ≤ j)))
def pGt : P2 := ints2 fun i j R => R (.bool (decide (j < i)))
def pGe : P2 := ints2 fun i j R => R (.bool (decide (j ≤ i)))
def pAdd : P2 := fun x y R => match x, y with
  | .int i, .int j => R (.int (i + j))
  | .str a, .str b => a.length + b.length ≤ 1000000 ∧ R (.str (a ++ b))
  | .tuple xs, .tuple ys => xs.length + ys.length ≤ 1000000 ∧ R (.tuple (xs ++ ys))
  | .list xs, .list ys => xs.length + ys.length ≤ 1000000 ∧ R (.list (xs ++ ys))
  | _, _ => False
theorem million {n : Nat} (h : n ≤ 1000000) : n ≤ sizeLine := by rw [sizeLine_eq]; omega
theorem d_sub : OpD X (binaryOp .Sub) pSub := opd_ints0 op_sub
theorem d_div : OpD X (binaryOp .FloorDiv) pDiv := opd_ints op_fdivW fun i j R h => h
theorem d_mod : OpD X (binaryOp .Mod) pMod := opd_ints op_mod fun i j R h => h
theorem d_pow : OpD X (binaryOp .Pow) pPow := opd_ints op_pow fun i j R h => h
theorem d_lt : OpD X (compareOp .Lt) pLt := by
  intro pins s σ H x y v u Q I rx ry ⟨B, G, δ, σ', dx, dy, R, rel, bx, by', q, k⟩
  cases dx <;> cases dy <;> first | exact False.elim q | skip
  exact op_lt pins s σ H x y v u Q I rx ry ⟨_, _, bor_int bx, bor_int by', k _ H G _ q (Same.refl _) rel (Dn.bl _)⟩
theorem d_le : OpD X (compareOp .LtE) pLe := opd_bools op_le
theorem d_gt : OpD X (compareOp .Gt) pGt := opd_bools op_gt
theorem d_ge : OpD X (compareOp .GtE) pGe := opd_bools op_ge
theorem DnL.nil_iff {K : PySem.W.Frag} {G : Hp} {vs : List V} {ds : List PyData} (t : DnL K G vs ds) : vs = [] ↔ ds = [] := by
  cases t with
  | nil => simp
  | cons a b => simp
theorem d_add : OpD X (binaryOp .Add) pAdd := by
  intro pins s σ H x y v u Q I rx ry ⟨B, G, δ, σ', dx, dy, R, rel, bx, by', q, k⟩
  cases dx <;> cases dy <;> first | exact False.elim q | skip
  · exact op_add pins s σ H x y v u Q I rx ry ⟨_, _, bor_int bx, bor_int by', k _ H G _ q (Same.refl _) rel (Dn.int _)⟩
  · exact op_add_str pins s σ H x y v u Q I rx ry ⟨_, _, bor_str bx, bor_str by', million q.1, k _ H G _ q.2 (Same.refl _) rel (Dn.str _)⟩
  · obtain ⟨a, xs, rfl, ha, ta⟩ := bor_lst rel bx
    obtain ⟨b, ys, rfl, hb, tb⟩ := bor_lst rel by'
    refine op_cat pins s σ H _ _ v u Q I rx ry ⟨a, b, xs, ys, rfl, rfl, ha, hb, by rw [ta.len, tb.len]; exact million q.1, fun p np => ?_⟩
    obtain ⟨rel3, s3⟩ := rel.laid (o := .lst (xs ++ ys)) np
    exact k _ _ _ _ q.2 s3 rel3 (Dn.lst upd_same ((ta.app tb).mono s3))
  · obtain ⟨a, xs, rfl, ha, ta⟩ := bor_tupS bx
    obtain ⟨b, ys, rfl, hb, tb⟩ := bor_tupS by'
    refine op_catA pins s σ H _ _ v u Q I rx ry ⟨a, b, xs, ys, rfl, rfl, sqT_mono rel.sg (SqT.of ha), sqT_mono rel.sg (SqT.of hb), by rw [ta.len, tb.len]; exact million q.1, fun e => ?_, fun e e2 => ?_, fun e1 e2 p np => ?_⟩
    · have e' := ta.nil_iff.mp e
      subst e e'
      exact k _ H G _ q.2 (Same.refl _) rel (Dn.tup hb (by simpa using tb))
    · have e' := tb.nil_iff.mp e2
      subst e2 e'
      exact k _ H G _ q.2 (Same.refl _) rel (Dn.tup ha (by simpa using ta))
    · obtain ⟨rel3, s3⟩ := rel.laid (o := .tup (xs ++ ys)) np
      exact k _ _ _ _ q.2 s3 rel3 (Dn.tup upd_same ((ta.app tb).mono s3))
theorem DnL.rep {K : PySem.W.Frag} {G : Hp} {vs : List V} {ds : List PyData} (t : DnL K G vs ds) : ∀ n : Nat, DnL K G (List.replicate n vs).flatten (List.replicate n ds).flatten
  | 0 => .nil
  | n + 1 => by
    rw [List.replicate_succ, List.replicate_succ, List.flatten_cons, List.flatten_cons]
    exact t.app (DnL.rep t n)
theorem d_mul : OpD X (binaryOp .Mult) pMul := by
  intro pins s σ H x y v u Q I rx ry ⟨B, G, δ, σ', dx, dy, R, rel, bx, by', q, k⟩
  cases dx <;> cases dy <;> first | exact False.elim q | skip
  · rcases q.1 with c | c
    · exact op_mul pins s σ H x y v u Q I rx ry ⟨_, _, bor_int bx, bor_int by', c, k _ H G _ q.2 (Same.refl _) rel (Dn.int _)⟩
    · exact op_mulW pins s σ H x y v u Q I rx ry ⟨_, _, bor_int bx, bor_int by', c, k _ H G _ q.2 (Same.refl _) rel (Dn.int _)⟩
  · obtain ⟨a, xs, rfl, ha, ta⟩ := bor_lst rel bx
    obtain ⟨q0, q1, q2, q3⟩ := q
    refine op_rep pins s σ H _ _ v u Q I rx ry ⟨a, _, xs, rfl, bor_int by', ha, by omega, by omega, by rw [ta.len]; exact million q1, fun p np => ?_⟩
    obtain ⟨rel3, s3⟩ := rel.laid (o := .lst _) np
    exact k _ _ _ _ q3 s3 rel3 (Dn.lst upd_same ((ta.rep _).mono s3))
/-- xs + ys that is one's own -/
def pAddL : P2L := fun x y R => match x, y with
  | .list xs, .list ys => xs.length + ys.length ≤ 1000000 ∧ R (xs ++ ys)
  | _, _ => False
theorem d_addL : OpDL X (binaryOp .Add) pAddL := by
  intro pins s σ H x y v u Q I rx ry ⟨B, G, δ, σ', dx, dy, R, rel, bx, by', q, k⟩
  cases dx <;> cases dy <;> first | exact False.elim q | skip
  obtain ⟨a, xs, rfl, ha, ta⟩ := bor_lst rel bx
  obtain ⟨b, ys, rfl, hb, tb⟩ := bor_lst rel by'
  exact op_cat pins s σ H _ _ v u Q I rx ry ⟨a, b, xs, ys, rfl, rfl, ha, hb, by rw [ta.len, tb.len]; exact million q.1, fun p np => k p _ _ G _ q.2 (Same.refl _) (rel.growB np) (rel.freeB np) (ta.app tb)⟩
def pMulL : P2L := fun x y R => match x, y with
  | .list xs, .int k => 0 ≤ k ∧ xs.length * k.toNat ≤ 1000000 ∧ k < 1000000 ∧ R (List.replicate k.toNat xs).flatten
  | _, _ => False
/-- both of one plain kind: compared at once -/
def sc2 : PyData → PyData → Bool
  | .int _, .int _ => true
  | .str _, .str _ => true
  | .bool _, .bool _ => true
  | .none, .none => true
  | _, _ => false
def pEq : P2 := fun x y R => (sc2 x y = true ∨ SeqAt.shaped x = true ∧ SeqAt.shaped y = true) ∧ R (.bool (PyData.eqv x y))
def pNe : P2 := fun x y R => (sc2 x y = true ∨ SeqAt.shaped x = true ∧ SeqAt.shaped y = true) ∧ R (.bool (!PyData.eqv x y))
theorem sc2_eq {K : PySem.W.Frag} {G H : Hp} {x y : V} {dx dy : PyData} (h : sc2 dx dy = true) (bx : Bor K G H x dx) (by' : Bor K G H y dy) : scal x y = true ∧ decide (x = y) = PyData.eqv dx dy := by
  cases dx <;> cases dy <;> first | exact absurd h Bool.false_ne_true | skip
  · obtain rfl := bor_none bx
    obtain rfl := bor_none by'
    exact ⟨rfl, by simp [PyData.eqv]⟩
  · obtain rfl := bor_bool bx
    obtain rfl := bor_bool by'
    refine ⟨rfl, ?_⟩
    rw [dec_bl]; simp [PyData.eqv]
  · obtain rfl := bor_int bx
    obtain rfl := bor_int by'
    refine ⟨rfl, ?_⟩
    rw [dec_int]; simp [PyData.eqv]
  · obtain rfl := bor_str bx
    obtain rfl := bor_str by'
    refine ⟨rfl, ?_⟩
    rw [dec_str]; simp [PyData.eqv]
theorem d_eq (hu : X.A.units + 64 < cLine) : OpD X (compareOp .Eq) pEq := by
  intro pins s σ H x y v u Q I rx ry ⟨B, G, δ, σ', dx, dy, R, rel, bx, by', ⟨c, q⟩, k⟩
  rcases c with c | ⟨q1, q2⟩
  · obtain ⟨h1, h2⟩ := sc2_eq c bx by'
    refine op_eq pins s σ H x y v u Q I rx ry ⟨h1, ?_⟩
    rw [h2]
    exact k _ H G _ q (Same.refl _) rel (Dn.bl _)
  · exact op_eqD hu pins s σ H x y v u Q I rx ry ⟨dx, dy, Dn.dp _ (noDict_of_shaped q1) (bx.dn rel), Dn.dp _ (noDict_of_shaped q2) (by'.dn rel), q1, q2, k _ H G _ q (Same.refl _) rel (Dn.bl _)⟩
theorem d_ne (hu : X.A.units + 64 < cLine) : OpD X (compareOp .NotEq) pNe := by
  intro pins s σ H x y v u Q I rx ry ⟨B, G, δ, σ', dx, dy, R, rel, bx, by', ⟨c, q⟩, k⟩
  rcases c with c | ⟨q1, q2⟩
  · obtain ⟨h1, h2⟩ := sc2_eq c bx by'
    refine op_ne pins s σ H x y v u Q I rx ry ⟨h1, ?_⟩
    rw [h2]
    exact k _ H G _ q (Same.refl _) rel (Dn.bl _)
  · exact op_neD hu pins s σ H x y v u Q I rx ry ⟨dx, dy, Dn.dp _ (noDict_of_shaped q1) (bx.dn rel), Dn.dp _ (noDict_of_shaped q2) (by'.dn rel), q1, q2, k _ H G _ q (Same.refl _) rel (Dn.bl _)⟩
def isNone : PyData → Bool
  | .none => true
  | _ => false
def pIs : P2 := fun x y R => match x, y with
  | x, .none => R (.bool (isNone x))
  | .bool a, .bool b => R (.bool (decide (a = b)))
  | _, _ => False
def pIsNot : P2 := fun x y R => match x, y with
  | x, .none => R (.bool (!isNone x))
  | .bool a, .bool b => R (.bool (!decide (a = b)))
  | _, _ => False
theorem dn_non {K : PySem.W.Frag} {G : Hp} {v : V} {d : PyData} (h : Dn K G v d) : decide (v = V.non) = isNone d := by
  cases h <;> rfl
theorem d_is : OpD X (compareOp .Is) pIs := by
  intro pins s σ H x y v u Q I rx ry ⟨B, G, δ, σ', dx, dy, R, rel, bx, by', q, k⟩
  cases dy with
  | none =>
    refine op_isN pins s σ H x y v u Q I rx ry ⟨bor_none by', ?_⟩
    rw [dn_non (bx.dn rel)]
    have q' : R (.bool (isNone dx)) := by cases dx <;> exact q
    exact k _ H G _ q' (Same.refl _) rel (Dn.bl _)
  | bool b =>
    cases dx <;> first | exact False.elim q | skip
    exact op_isBl pins s σ H x y v u Q I rx ry ⟨_, _, bor_bool bx, bor_bool by', k _ H G _ q (Same.refl _) rel (Dn.bl _)⟩
  | _ => cases dx <;> exact False.elim q
theorem d_isnot : OpD X (compareOp .IsNot) pIsNot := by
  intro pins s σ H x y v u Q I rx ry ⟨B, G, δ, σ', dx, dy, R, rel, bx, by', q, k⟩
  cases dy with
  | none =>
    refine op_notN pins s σ H x y v u Q I rx ry ⟨bor_none by', ?_⟩
    rw [dn_non (bx.dn rel)]
    have q' : R (.bool (!isNone dx)) := by cases dx <;> exact q
    exact k _ H G _ q' (Same.refl _) rel (Dn.bl _)
  | bool b =>
    cases dx <;> first | exact False.elim q | skip
    exact op_notBl pins s σ H x y v u Q I rx ry ⟨_, _, bor_bool bx, bor_bool by', k _ H G _ q (Same.refl _) rel (Dn.bl _)⟩
  | _ => cases dx <;> exact False.elim q
def pIn : P2 := fun x y R => match y with
  | .list ds => SeqAt.shaped x = true ∧ SeqAt.shaped (.list ds) = true ∧ R (.bool (ds.any fun z => PyData.eqv z x))
  | .tuple ds => SeqAt.shaped x = true ∧ SeqAt.shaped (.tuple ds) = true ∧ R (.bool (ds.any fun z => PyData.eqv z x))
  | .str z => ∃ c : Nat, x = .str ⟨#[c]⟩ ∧ R (.bool (decide (c ∈ z.cps.toList)))
  | _ => False
def pNotIn : P2 := fun x y R => match y with
  | .list ds => SeqAt.shaped x = true ∧ SeqAt.shaped (.list ds) = true ∧ R (.bool (!ds.any fun z => PyData.eqv z x))
  | .tuple ds => SeqAt.shaped x = true ∧ SeqAt.shaped (.tuple ds) = true ∧ R (.bool (!ds.any fun z => PyData.eqv z x))
  | .str z => ∃ c : Nat, x = .str ⟨#[c]⟩ ∧ R (.bool (!decide (c ∈ z.cps.toList)))
  | _ => False
def pIx : P2 := fun x y R => match x, y with
  | .list ds, .int i => ∃ z, atI ds i = some z ∧ R z
  | .tuple ds, .int i => ∃ z, atI ds i = some z ∧ R z
  | .str z, .int i => z.length ≤ 1000000 ∧ ∃ c, atI z.cps.toList i = some c ∧ R (.str ⟨#[c]⟩)
  | _, _ => False
theorem DnL.atI {K : PySem.W.Frag} {G : Hp} {vs : List V} {ds : List PyData} {i : Int} {z : PyData} (t : DnL K G vs ds) (h : L2.atI ds i = some z) : ∃ v, L2.atI vs i = some v ∧ Dn K G v z := by
  unfold L2.atI at h ⊢
  rw [t.len]
  cases e : ixN ds.length i with
  | none => rw [e] at h; cases h
  | some j => rw [e] at h; exact t.get h
theorem d_ix : IxD X pIx := by
  have hor := @ix_seq X
  intro ev es pins s σ H x y v u Q I rx ry ⟨B, G, δ, σ', dx, dy, R, rel, bx, by', q, k⟩ hsub
  cases dx <;> cases dy <;> first | exact False.elim q | skip
  · obtain ⟨q1, c, e, q⟩ := q
    exact hor ev es pins s σ H x y v u Q I rx ry (.inr (.inr ⟨_, _, c, bor_str bx, bor_int by', million q1, e, k _ H G _ q (Same.refl _) rel (Dn.str _)⟩)) hsub
  · obtain ⟨a, xs, rfl, ha, ta⟩ := bor_lst rel bx
    obtain ⟨z, e, q⟩ := q
    obtain ⟨w, e2, dw⟩ := ta.atI e
    exact hor ev es pins s σ H _ y v u Q I rx ry (.inl ⟨a, xs, _, w, rfl, bor_int by', SqL.of ha, e2, k _ H G _ q (Same.refl _) rel dw⟩) hsub
  · obtain ⟨a, xs, rfl, ha, ta⟩ := bor_tup bx
    obtain ⟨z, e, q⟩ := q
    obtain ⟨w, e2, dw⟩ := ta.atI e
    exact hor ev es pins s σ H _ y v u Q I rx ry (.inr (.inl ⟨a, xs, _, w, rfl, bor_int by', sqT_mono rel.sg ha, e2, k _ H G _ q (Same.refl _) rel dw⟩)) hsub
def cutD {α : Type} (xs : List α) (lo hi : Option Int) : List α := (xs.drop (HT.sIx xs.length 0 lo)).take (HT.sIx xs.length xs.length hi - HT.sIx xs.length 0 lo)
def pSl : P3 := fun x lo hi R => match x with
  | .list ds => R (.list (cutD ds lo hi))
  | .tuple ds => R (.tuple (cutD ds lo hi))
  | .str z => z.length ≤ 1000000 ∧ R (.str (cutS z lo hi))
  | _ => False
theorem DnL.cut {K : PySem.W.Frag} {G : Hp} {vs : List V} {ds : List PyData} {lo hi : Option Int} (t : DnL K G vs ds) : DnL K G (cutV vs lo hi) (cutD ds lo hi) := by
  unfold cutV cutD
  rw [t.len]
  exact (t.drop _).take _
theorem cutD_whole {α : Type} {xs : List α} {lo hi : Option Int} (h1 : HT.sIx xs.length 0 lo = 0) (h2 : HT.sIx xs.length xs.length hi = xs.length) : cutD xs lo hi = xs := by
  unfold cutD
  rw [h1, h2]; simp
theorem d_sl : SlR X (rOfS X.K pSl) := by
  intro pins s σ H x v vl vu lo hi sl Q I rx hs pl pu ⟨B, G, δ, σ', dx, R, rel, bx, q, k⟩
  cases dx with
  | list ds =>
    obtain ⟨a, xs, rfl, ha, ta⟩ := bor_lst rel bx
    refine sl_list pins s σ H _ v vl vu lo hi sl Q I rx hs pl pu ⟨a, xs, rfl, SqL.of ha, fun p np => ?_⟩
    obtain ⟨rel3, s3⟩ := rel.laid (o := .lst (cutV xs lo hi)) np
    exact k _ _ _ _ q s3 rel3 (Dn.lst upd_same (ta.cut.mono s3))
  | tuple ds =>
    obtain ⟨a, xs, rfl, ha, ta⟩ := bor_tupS bx
    refine sl_tupA pins s σ H _ v vl vu lo hi sl Q I rx hs pl pu ⟨a, xs, rfl, sqT_mono rel.sg (SqT.of ha), fun e => ?_, fun _ p np => ?_⟩
    · have q' : R (.tuple (cutD ds lo hi)) := q
      rw [cutD_whole (by rw [← ta.len]; exact e.1) (by rw [← ta.len]; exact e.2)] at q'
      exact k _ H G _ q' (Same.refl _) rel (Dn.tup ha ta)
    · obtain ⟨rel3, s3⟩ := rel.laid (o := .tup (cutV xs lo hi)) np
      exact k _ _ _ _ q s3 rel3 (Dn.tup upd_same (ta.cut.mono s3))
  | str z => exact sl_str pins s σ H x v vl vu lo hi sl Q I rx hs pl pu ⟨z, bor_str bx, million q.1, k _ H G _ q.2 (Same.refl _) rel (Dn.str _)⟩
  | _ => exact False.elim q
end
end DL
set_option Elab.async false
set_option linter.all false
set_option maxRecDepth 100000
set_option maxHeartbeats 4000000
namespace DL
open PySem PySem.Spec PyProof.Rows L2
variable [Tb]

section
variable {X : Cx}
theorem BorL.one {K : PySem.W.Frag} {G H : Hp} {vs : List V} {d : PyData} (h : BorL K G H vs [d]) : ∃ v, vs = [v] ∧ Bor K G H v d := by
  cases h with | cons a b => cases b; exact ⟨_, rfl, a⟩
theorem BorL.two {K : PySem.W.Frag} {G H : Hp} {vs : List V} {d e : PyData} (h : BorL K G H vs [d, e]) : ∃ v u, vs = [v, u] ∧ Bor K G H v d ∧ Bor K G H u e := by
  cases h with | cons a b => obtain ⟨u, rfl, c⟩ := b.one; exact ⟨_, _, rfl, a, c⟩
/-- a built-in of one argument -/
abbrev one (p : PyData → (PyData → Prop) → Prop) : PN := fun xs R => match xs with
  | [x] => p x R
  | _ => False
abbrev oneL (p : PyData → (List PyData → Prop) → Prop) : List PyData → (List PyData → Prop) → Prop := fun xs R => match xs with
  | [x] => p x R
  | _ => False
abbrev two (p : PyData → PyData → (PyData → Prop) → Prop) : PN := fun xs R => match xs with
  | [x, y] => p x y R
  | _ => False
def pLen : PN := one fun x R => match x with
  | .list ds => R (.int ds.length)
  | .tuple ds => R (.int ds.length)
  | .str z => z.length ≤ 1000000 ∧ R (.int z.length)
  | _ => False
theorem c_len : CallD X (.builtin "len") pLen := by
  intro pins s σ H vs us Q I r ⟨B, G, δ, σ', ds, R, rel, b, q, k⟩
  match ds, q with
  | [d], q =>
    obtain ⟨v, rfl, bd⟩ := b.one
    cases d with
    | list xs =>
      obtain ⟨a, ws, rfl, ha, ta⟩ := bor_lst rel bd
      exact call_len pins s σ H _ us Q I r ⟨_, _, rfl, .inl ⟨ws, SqL.of ha, ta.len.symm⟩, k _ H G _ q (Same.refl _) rel (Dn.int _)⟩
    | tuple xs =>
      obtain ⟨a, ws, rfl, ha, ta⟩ := bor_tup bd
      exact call_len pins s σ H _ us Q I r ⟨_, _, rfl, .inr ⟨ws, sqT_mono rel.sg ha, ta.len.symm⟩, k _ H G _ q (Same.refl _) rel (Dn.int _)⟩
    | str z =>
      obtain rfl := bor_str bd
      exact call_len pins s σ H _ us Q I r ⟨_, _, rfl, ⟨million q.1, rfl⟩, k _ H G _ q.2 (Same.refl _) rel (Dn.int _)⟩
    | _ => exact False.elim q
def pTupOf : PN := one fun x R => match x with
  | .list ds => R (.tuple ds)
  | .tuple ds => R (.tuple ds)
  | _ => False
theorem c_tup : CallD X (.type "tuple") pTupOf := by
  intro pins s σ H vs us Q I r ⟨B, G, δ, σ', ds, R, rel, b, q, k⟩
  match ds, q with
  | [d], q =>
    obtain ⟨v, rfl, bd⟩ := b.one
    cases d with
    | list xs =>
      obtain ⟨a, ws, rfl, ha, ta⟩ := bor_lst rel bd
      refine call_tuple_of pins s σ H _ us Q I r ⟨a, ws, rfl, .inl ⟨SqL.of ha, fun p np => ?_⟩⟩
      obtain ⟨rel3, s3⟩ := rel.laid (o := .tup ws) np
      exact k _ _ _ _ q s3 rel3 (Dn.tup upd_same (ta.mono s3))
    | tuple xs =>
      obtain ⟨a, ws, rfl, ha, ta⟩ := bor_tupS bd
      exact call_tuple_of pins s σ H _ us Q I r ⟨a, ws, rfl, .inr ⟨sqT_mono rel.sg (SqT.of ha), k _ H G _ q (Same.refl _) rel (Dn.tup ha ta)⟩⟩
    | _ => exact False.elim q
def pLstOf : List PyData → (List PyData → Prop) → Prop := oneL fun x R => match x with
  | .list ds => R ds
  | .tuple ds => R ds
  | _ => False
theorem c_lst : CallDL X (.type "list") pLstOf := by
  intro pins s σ H vs us Q I r ⟨B, G, δ, σ', ds, R, rel, b, q, k⟩
  match ds, q with
  | [d], q =>
    obtain ⟨v, rfl, bd⟩ := b.one
    cases d with
    | list xs =>
      obtain ⟨a, ws, rfl, ha, ta⟩ := bor_lst rel bd
      exact call_list_of pins s σ H _ us Q I r ⟨a, ws, rfl, .inl (SqL.of ha), fun p np => k p ws _ G _ q (Same.refl _) (rel.growB np) (rel.freeB np) ta⟩
    | tuple xs =>
      obtain ⟨a, ws, rfl, ha, ta⟩ := bor_tup bd
      exact call_list_of pins s σ H _ us Q I r ⟨a, ws, rfl, .inr (sqT_mono rel.sg ha), fun p np => k p ws _ G _ q (Same.refl _) (rel.growB np) (rel.freeB np) ta⟩
    | _ => exact False.elim q
def pInt : PN := one fun x R => match x with
  | .int i => R (.int i)
  | .bool b => R (.int (if b then 1 else 0))
  | .str z => ∃ n, PySem.intText? z = some n ∧ z.length ≤ 640 ∧ R (.int n)
  | _ => False
theorem c_int : CallD X (.type "int") pInt := by
  intro pins s σ H vs us Q I r ⟨B, G, δ, σ', ds, R, rel, b, q, k⟩
  match ds, q with
  | [d], q =>
    obtain ⟨v, rfl, bd⟩ := b.one
    cases d with
    | int i => obtain rfl := bor_int bd; exact call_int1 pins s σ H _ us Q I r (.inl ⟨i, rfl, k _ H G _ q (Same.refl _) rel (Dn.int _)⟩)
    | bool i => obtain rfl := bor_bool bd; exact call_int1 pins s σ H _ us Q I r (.inr ⟨i, rfl, k _ H G _ q (Same.refl _) rel (Dn.int _)⟩)
    | str z =>
      obtain rfl := bor_str bd
      obtain ⟨n, q1, q2, q3⟩ := q
      exact call_int_str pins s σ H _ us Q I r ⟨z, n, rfl, q1, q2, k _ H G _ q3 (Same.refl _) rel (Dn.int _)⟩
    | _ => exact False.elim q
def pBool : PN := one fun x R => match x with
  | .int i => R (.bool (i != 0))
  | .bool b => R (.bool b)
  | _ => False
def pStr : PN := one fun x R => match x with
  | .int i => i.natAbs.log2 < 1920 ∧ R (.str (toString i))
  | .str z => R (.str z)
  | _ => False
def pAbs : PN := one fun x R => match x with
  | .int i => R (.int (if i < 0 then -i else i))
  | _ => False
theorem c_abs : CallD X (.builtin "abs") pAbs := by
  intro pins s σ H vs us Q I r ⟨B, G, δ, σ', ds, R, rel, b, q, k⟩
  match ds, q with
  | [d], q =>
    obtain ⟨v, rfl, bd⟩ := b.one
    cases d with
    | int i => obtain rfl := bor_int bd; exact call_abs pins s σ H _ us Q I r ⟨i, rfl, k _ H G _ q (Same.refl _) rel (Dn.int _)⟩
    | _ => exact False.elim q
def pMax2 : PN := two fun x y R => match x, y with
  | .int i, .int j => R (.int (if j > i then j else i))
  | _, _ => False
def pMin2 : PN := two fun x y R => match x, y with
  | .int i, .int j => R (.int (if j < i then j else i))
  | _, _ => False
theorem c_max2 (hc : X.calm = true) : CallD X (.builtin "max") pMax2 := by
  intro pins s σ H vs us Q I r ⟨B, G, δ, σ', ds, R, rel, b, q, k⟩
  match ds, q with
  | [d, e], q =>
    obtain ⟨v, u, rfl, bd, be⟩ := b.two
    cases d <;> cases e <;> first | exact False.elim q | skip
    obtain rfl := bor_int bd
    obtain rfl := bor_int be
    exact call_max2 hc pins s σ H _ us Q I r ⟨_, _, rfl, k _ H G _ q (Same.refl _) rel (Dn.int _)⟩
/-- sum, max, min, sorted of ints -/
def pSum : PN := one fun x R => match x with
  | .list ds => ∃ ns : List Int, ds = ns.map PyData.int ∧ R (.int ns.sum)
  | _ => False
def pMax : PN := one fun x R => match x with
  | .list ds => ∃ ns : List Int, ds = ns.map PyData.int ∧ 0 < ns.length ∧ ∀ m, m ∈ ns → (∀ y ∈ ns, y ≤ m) → R (.int m)
  | _ => False
def pMin : PN := one fun x R => match x with
  | .list ds => ∃ ns : List Int, ds = ns.map PyData.int ∧ 0 < ns.length ∧ ∀ m, m ∈ ns → (∀ y ∈ ns, m ≤ y) → R (.int m)
  | _ => False
theorem c_sum (hc : X.calm = true) : CallD X (.builtin "sum") pSum := by
  intro pins s σ H vs us Q I r ⟨B, G, δ, σ', ds, R, rel, b, q, k⟩
  match ds, q with
  | [d], q =>
    obtain ⟨v, rfl, bd⟩ := b.one
    cases d with
    | list xs =>
      obtain ⟨a, ws, rfl, ha, ta⟩ := bor_lst rel bd
      obtain ⟨ns, rfl, q⟩ := q
      obtain rfl := ta.toInts
      exact cr_sum hc pins s σ H _ us Q I r ⟨a, ns, rfl, SqL.of ha, k _ H G _ q (Same.refl _) rel (Dn.int _)⟩
    | _ => exact False.elim q
/-- all, any of a list of truth values -/
def pAll : PN := one fun x R => match x with
  | .list ds => ∃ bs : List Bool, ds = bs.map PyData.bool ∧ R (.bool (bs.all id))
  | _ => False
def pAny : PN := one fun x R => match x with
  | .list ds => ∃ bs : List Bool, ds = bs.map PyData.bool ∧ R (.bool (bs.any id))
  | _ => False
theorem c_any (hc : X.calm = true) : CallD X (.builtin "any") pAny := by
  intro pins s σ H vs us Q I r ⟨B, G, δ, σ', ds, R, rel, b, q, k⟩
  match ds, q with
  | [d], q =>
    obtain ⟨v, rfl, bd⟩ := b.one
    cases d with
    | list xs =>
      obtain ⟨a, ws, rfl, ha, ta⟩ := bor_lst rel bd
      obtain ⟨ns, rfl, q⟩ := q
      obtain rfl := ta.toBools
      exact cr_any hc pins s σ H _ us Q I r ⟨a, ns, rfl, SqL.of ha, k _ H G _ q (Same.refl _) rel (Dn.bl _)⟩
    | _ => exact False.elim q
/-- repr of data without dicts -/
def pRepr : PN := one fun x R => x.showable = true ∧ x.hasDict = false ∧ x.depth ≤ 60 ∧ x.shown.length ≤ 16000000 ∧ R (.str x.shown)
def tyName : PyData → String
  | .none => "NoneType" | .bool _ => "bool" | .int _ => "int" | .str _ => "str" | .list _ => "list" | .tuple _ => "tuple" | .dict [] => "dict" | .dict (_ :: _) => "object"
theorem dn_tyX {K : PySem.W.Frag} {H : Hp} {v : V} {d : PyData} (h : Dn K H v d) (hd : tyName d ≠ "object") : TyX K H v (.type (tyName d)) := by
  cases h with
  | non => exact .base .non
  | bl b => exact .base (.bl b)
  | int i => exact .base (.int i)
  | str x => exact .base (.str x)
  | lst h t => exact .base (.lst h)
  | tup h t => exact .base (.tup h)
  | dic h n => exact .base (.dK h)
  | ob h k e t => exact absurd rfl hd
/-- an object's type -/
theorem dn_tyO {K : PySem.W.Frag} {H : Hp} {v : V} {d : PyData} (h : Dn K H v d) (hd : tyName d = "object") : ∃ n C, ObjK K n C ∧ TyX K H v (.ref C) := by
  cases h with
  | ob h k e t => exact ⟨_, _, k, .base (.ins h k.cl k.ha k.hn k.tk k.mr)⟩
  | _ => exact absurd hd (by simp [tyName])
def isTy (T : String) (d : PyData) : Bool := tyName d == T || (T == "int" && tyName d == "bool")
def wIsi (T : String) (w : DE) : DE := fun δ R => w δ fun o δ1 => use o δ1 fun x => R (.d (.bool (isTy T x))) δ1
theorem kit_isTy {K : PySem.W.Frag} {T : String} (hT : T = "int" ∨ T = "bool" ∨ T = "str" ∨ T = "tuple" ∨ T = "list" ∨ T = "dict") (d : PyData) (hd : tyName d ≠ "object") : PySem.W.kitOne K (.type (tyName d)) (.type T) = some (isTy T d) := by
  apply kit_ty
  have all : ∀ n ∈ ["NoneType", "bool", "int", "str", "list", "tuple", "dict"], ∀ T ∈ ["int", "bool", "str", "tuple", "list", "dict"], kitB n T = some (n == T || (T == "int" && n == "bool")) := by decide +kernel
  exact all (tyName d) (by unfold tyName at hd ⊢; split <;> simp_all) T (by simpa using hT)
theorem je_isi {T : String} {e : Expr} {w : DE} {x t : Str} {px pt pos : Pos} (hT : T = "int" ∨ T = "bool" ∨ T = "str" ∨ T = "tuple" ∨ T = "list" ∨ T = "dict") (hg : Gl X x) (hm : X.mg x = none) (hv : bootBuiltins x = some (.builtin "isinstance")) (ht : Gl X t) (hmt : X.mg t = none) (hvt : bootBuiltins t = some (.type T)) (he : JE X e w)
    (hn : x ≠ "__name__" := by decide) (hdb : (x == ("__debug__" : Str)) = false := by decide) (hn2 : t ≠ "__name__" := by decide) (hdb2 : (t == ("__debug__" : Str)) = false := by decide)
    (hs1 : starEach [e, .Name t pt] X.env = (false, eval e X.env) :: starEach [.Name t pt] X.env := by rfl) (hs2 : starEach [.Name t pt] X.env = (false, eval (.Name t pt) X.env) :: starEach [] X.env := by rfl)
    (hpl : (backTo pos (starEach [.Name t pt] X.env)).any (·.1) = false := by rfl) :
    JE X (.Call (.Name x px) [e, .Name t pt] [] pos) (wIsi T w) :=
  pe_le (pe_callB call_isi hg hm hv (pa_cons he (pa_cons (pe_bltn (v := .ty T) ht hmt hvt rfl hn2 hdb2) pa_nil hs2) hs1) hn hdb hs1 hpl) fun pins s σ H Q I ⟨B, G, δ, R, rel, hw, k⟩ =>
    ⟨B, G, δ, _, rel, hw, fun v H1 G1 o δ1 r1 s1 rel1 ok1 => by
      obtain ⟨d, q, bd⟩ := use_ok rel1 ok1 r1
      by_cases hd : tyName d = "object"
      · obtain ⟨n, C, ok, ty⟩ := dn_tyO (bd.dn rel1) hd
        have no : isTy T d = false := by
          unfold isTy
          rw [hd]
          rcases hT with rfl | rfl | rfl | rfl | rfl | rfl <;> decide
        rw [no] at q
        exact ⟨v, .ty T, _, _, _, rfl, ClsV.ty T, ty, ok.ty T (by rcases hT with rfl | rfl | rfl | rfl | rfl | rfl <;> decide), k _ H1 G1 _ δ1 q s1 rel1 (Dn.bl _)⟩
      · exact ⟨v, .ty T, _, _, _, rfl, ClsV.ty T, dn_tyX (bd.dn rel1) hd, kit_isTy hT d hd, k _ H1 G1 _ δ1 q s1 rel1 (Dn.bl _)⟩⟩
def wRevL (w : DE) : DE := fun δ R => w δ fun o δ1 => use o δ1 fun x => ∃ ds, x = .list ds ∧ R (.d (.list ds.reverse)) δ1
theorem je_glob {x : Str} {v : V} {u : Value} {d : PyData} {pos : Pos} (hg : Gl X x) (hm : X.mg x = some u) (r : RelV v u) (hd : ∀ K G, Dn K G v d) (hdb : (x == ("__debug__" : Str)) = false := by decide) : JE X (.Name x pos) (wC d) := je_c (pe_glob hg hm r hdb) hd
end
end DL
set_option Elab.async false
set_option linter.all false
set_option maxRecDepth 100000
set_option maxHeartbeats 4000000
namespace DL
open PySem PySem.Spec PyProof.Rows L2
variable [Tb]

def bov (B H : Hp) (l : List Addr) : Hp := fun a => if a ∈ l then H a else B a
abbrev DM := DS → (Cell → DS → Prop) → Prop
abbrev DMs := DS → (List Cell → DS → Prop) → Prop
def fps (cs : List Cell) : List Addr := cs.flatMap Cell.fp
inductive CellsOk (K : PySem.W.Frag) (G H : Hp) : List Cell → List V → Prop
  | nil : CellsOk K G H [] []
  | cons {c : Cell} {v : V} {cs : List Cell} {vs : List V} (h : CellOk K G H c (some v)) (hd : ∀ a ∈ c.fp, a ∉ fps cs) (t : CellsOk K G H cs vs) : CellsOk K G H (c :: cs) (v :: vs)
def upMs (K : PySem.W.Frag) (w : DMs) : TA := fun σ H Q => ∃ B G δ R, Rel K B G δ σ H ∧ w δ R ∧ ∀ vs H' G' cs δ', R cs δ' → Same G G' → Rel K (bov B H' (fps cs)) G' δ' σ H' → (∀ a ∈ fps cs, B a = none) → CellsOk K G' H' cs vs → Q vs H'
def upM (K : PySem.W.Frag) (w : DM) : TE := fun σ H Q => ∃ B G δ R, Rel K B G δ σ H ∧ w δ R ∧ ∀ v H' G' c δ', R c δ' → Same G G' → Rel K (bov B H' c.fp) G' δ' σ H' → (∀ a ∈ c.fp, B a = none) → CellOk K G' H' c (some v) → Q v H'
abbrev JM (X : Cx) (e : Expr) (w : DM) : Prop := PE X e (upM X.K w)
abbrev JMs (X : Cx) (es : List Expr) (w : DMs) : Prop := PA X es (upMs X.K w)
theorem bov_nil {B H : Hp} : bov B H [] = B := by funext a; simp [bov]
section
variable {X : Cx} {e : Expr} {es : List Expr} {pos : Pos}
def mE (w : DE) : DM := fun δ R => w δ fun o δ1 => lk o δ1 fun x δ2 => R (.d x) δ2
def mL (w : DL) : DM := fun δ R => w δ fun xs δ1 => ∀ a, R (.ol a xs) δ1
theorem jm_e {w : DE} (h : JE X e w) : JM X e (mE w) := pe_le h fun pins s σ H Q I ⟨B, G, δ, R, rel, hw, k⟩ => ⟨B, G, δ, _, rel, hw, fun v H1 G1 o δ1 r1 s1 rel1 ok1 => by
  obtain ⟨G2, δ2, x, q, s2, rel2, dn⟩ := lk_ok rel1 ok1 r1
  exact k v H1 G2 (.d x) δ2 q (s1.trans s2) (by show Rel X.K (bov B H1 []) G2 δ2 σ H1; rw [bov_nil]; exact rel2) (fun a m => nomatch m) ⟨v, rfl, dn⟩⟩
theorem jm_l {w : DL} (h : JL X e w) : JM X e (mL w) := pe_le h fun pins s σ H Q I ⟨B, G, δ, R, rel, hw, k⟩ => ⟨B, G, δ, _, rel, hw, fun a vs H1 G1 xs δ1 r1 s1 rel1 hB t => by
  have ha : H1 a = some (.lst vs) := rel1.sb _ _ upd_same
  have e : bov B H1 [a] = upd B a (.lst vs) := by
    funext b
    unfold bov upd
    by_cases hb : b = a
    · subst hb; simp [ha]
    · simp [hb]
  exact k (.ref a) H1 G1 (.ol a xs) δ1 (r1 a) s1 (by show Rel X.K (bov B H1 [a]) G1 δ1 σ H1; rw [e]; exact rel1) (fun b m => by rw [List.mem_singleton.mp m]; exact hB) ⟨rfl, vs, ha, t⟩⟩
def msNil : DMs := fun δ R => R [] δ
def msCons (w : DM) (r : DMs) : DMs := fun δ R => w δ fun c δ1 => r δ1 fun cs δ2 => R (c :: cs) δ2
theorem jms_nil : JMs X [] msNil := pa_le pa_nil fun pins s σ H Q I ⟨B, G, δ, R, rel, hw, k⟩ => k [] H G [] δ hw (Same.refl _) (by show Rel X.K (bov B H []) G δ σ H; rw [bov_nil]; exact rel) (fun a m => nomatch m) .nil
theorem jms_cons {w : DM} {r : DMs} (ha : JM X e w) (hr : JMs X es r) (hs : starEach (e :: es) X.env = (false, eval e X.env) :: starEach es X.env := by rfl) : JMs X (e :: es) (msCons w r) :=
  pa_le (pa_cons ha hr hs) fun pins s σ H Q I ⟨B, G, δ, R, rel, hw, k⟩ =>
    ⟨B, G, δ, _, rel, hw, fun v H1 G1 c δ1 r1 s1 rel1 hB1 ok1 => ⟨bov B H1 c.fp, G1, δ1, _, rel1, r1, fun vs H2 G2 cs δ2 r2 s2 rel2 hB2 ok2 => by
      have off : ∀ a ∈ c.fp, a ∉ fps cs := fun a m m2 => by
        have z := hB2 a m2
        unfold bov at z
        rw [if_pos m] at z
        obtain ⟨o, eo⟩ := cell_tr (K := X.K) (G := G1) ok1 m
        rw [eo] at z; cases z
      have same : ∀ a ∈ c.fp, H2 a = H1 a := fun a m => by
        obtain ⟨o, eo⟩ := cell_tr (K := X.K) (G := G1) ok1 m
        have z : bov (bov B H1 c.fp) H2 (fps cs) a = some o := by
          unfold bov
          rw [if_neg (off a m), if_pos m]; exact eo
        rw [rel2.sb _ _ z, eo]
      have eb : bov (bov B H1 c.fp) H2 (fps cs) = bov B H2 (fps (c :: cs)) := by
        funext a
        unfold bov
        by_cases h1 : a ∈ fps cs
        · have h3 : a ∈ fps (c :: cs) := by unfold fps; rw [List.flatMap_cons]; exact List.mem_append_right _ h1
          rw [if_pos h1, if_pos h3]
        · by_cases h2 : a ∈ c.fp
          · have h3 : a ∈ fps (c :: cs) := by unfold fps; rw [List.flatMap_cons]; exact List.mem_append_left _ h2
            rw [if_neg h1, if_pos h2, if_pos h3, same a h2]
          · have h3 : a ∉ fps (c :: cs) := by
              unfold fps; rw [List.flatMap_cons]; intro m
              rcases List.mem_append.mp m with m | m
              · exact h2 m
              · exact h1 m
            rw [if_neg h1, if_neg h2, if_neg h3]
      refine k (v :: vs) H2 G2 (c :: cs) δ2 r2 (s1.trans s2) (eb ▸ rel2) (fun a m => ?_) (.cons (ok1.stay s2 same) off ok2)
      unfold fps at m
      rw [List.flatMap_cons] at m
      rcases List.mem_append.mp m with m | m
      · exact hB1 a m
      · have z := hB2 a m
        unfold bov at z
        split at z
        · rename_i hm
          exact absurd m (off a hm)
        · exact z⟩⟩
end

section
variable {K : PySem.W.Frag} {B G H : Hp} {δ : DS} {σ : L2.St}
theorem Rel.store {c : Cell} {v : V} {i : Nat} {l : List Addr} (R : Rel K (bov B H (c.fp ++ l)) G δ σ H) (hB : ∀ a ∈ c.fp, B a = none) (hl : ∀ a ∈ c.fp, a ∉ l) (ok : CellOk K G H c (some v)) : Rel K (bov B H l) G (δ.set i c) (σ.set i (some v)) H := by
  have tr : ∀ a ∈ c.fp, ∃ o, H a = some o := fun a m => cell_tr ok m
  have bg : ∀ a ∈ c.fp, G a = none := fun a m => by
    rcases R.dj a with z | z
    · exact z
    · obtain ⟨o, eo⟩ := tr a m
      unfold bov at z
      rw [if_pos (List.mem_append_left _ m), eo] at z; cases z
  have bn : ∀ a ∈ c.fp, bov B H l a = none := fun a m => by
    unfold bov; rw [if_neg (hl a m)]; exact hB a m
  have sub : Same (bov B H l) H := fun a o z => by
    unfold bov at z
    split at z
    · exact z
    · by_cases m : a ∈ c.fp
      · rw [hB a m] at z; cases z
      · refine R.sb a o ?_
        unfold bov
        split
        · rename_i hm
          rcases List.mem_append.mp hm with q | q
          · exact absurd q m
          · rename_i hn; exact absurd q hn
        · exact z
  have R' : Rel K (bov B H l) G δ σ H := by
    refine ⟨R.len, R.sg, sub, fun a => ?_, R.ok, R.ap, fun i c' a e m => ?_, R.tt⟩
    · rcases R.dj a with z | z
      · exact .inl z
      · by_cases m : a ∈ c.fp
        · exact .inr (bn a m)
        · refine .inr ?_
          unfold bov at z ⊢
          split
          · rename_i hm
            rw [if_pos (List.mem_append_right _ hm)] at z; exact z
          · rename_i hm
            rw [if_neg] at z
            · exact z
            · intro q
              rcases List.mem_append.mp q with q | q
              · exact m q
              · exact hm q
    · obtain ⟨f1, f2⟩ := R.fr i c' a e m
      refine ⟨f1, ?_⟩
      by_cases m2 : a ∈ c.fp
      · exact bn a m2
      · unfold bov at f2 ⊢
        split
        · rename_i hm
          rw [if_pos (List.mem_append_right _ hm)] at f2; exact f2
        · rename_i hm
          rw [if_neg] at f2
          · exact f2
          · intro q
            rcases List.mem_append.mp q with q | q
            · exact m2 q
            · exact hm q
  refine R'.set ok fun a m => ⟨⟨bg a m, bn a m⟩, fun j c' hj e m' => ?_⟩
  obtain ⟨_, f2⟩ := R.fr j c' a e m'
  obtain ⟨o, eo⟩ := tr a m
  unfold bov at f2
  rw [if_pos (List.mem_append_left _ m), eo] at f2; cases f2
end

structure DEnds where
  nx : DS → Prop
  rt : PyData → DS → Prop
  bk : DS → Prop := fun _ => False
  ct : DS → Prop := fun _ => False
abbrev DTS := DEnds → DS → Prop
structure EndsOk (K : PySem.W.Frag) (B G : Hp) (E : DEnds) (D : Ends) : Prop where
  nx : ∀ σ' H' G' δ', E.nx δ' → Same G G' → Rel K B G' δ' σ' H' → D.nx σ' H'
  rt : ∀ v σ' H' G' x δ', E.rt x δ' → Same G G' → Rel K B G' δ' σ' H' → Dn K G' v x → D.rt v H'
  bk : ∀ σ' H' G' δ', E.bk δ' → Same G G' → Rel K B G' δ' σ' H' → D.bk σ' H'
  ct : ∀ σ' H' G' δ', E.ct δ' → Same G G' → Rel K B G' δ' σ' H' → D.ct σ' H'
theorem EndsOk.mono {K : PySem.W.Frag} {B G G' : Hp} {E : DEnds} {D : Ends} (h : EndsOk K B G E D) (s : Same G G') : EndsOk K B G' E D :=
  ⟨fun σ' H' G2 δ' r s2 => h.nx σ' H' G2 δ' r (s.trans s2), fun v σ' H' G2 x δ' r s2 => h.rt v σ' H' G2 x δ' r (s.trans s2), fun σ' H' G2 δ' r s2 => h.bk σ' H' G2 δ' r (s.trans s2), fun σ' H' G2 δ' r s2 => h.ct σ' H' G2 δ' r (s.trans s2)⟩
def upS (K : PySem.W.Frag) (w : DTS) : TS := fun D σ H => ∃ B G δ E, Rel K B G δ σ H ∧ w E δ ∧ EndsOk K B G E D
abbrev JS (X : Cx) (st : Stmt) (w : DTS) : Prop := PS X st (upS X.K w)
abbrev JSs (X : Cx) (st : List Stmt) (w : DTS) : Prop := PSs X st (upS X.K w)
section
variable {X : Cx} {st : Stmt} {rest : List Stmt} {e : Expr} {pos : Pos}
theorem ps_le {t t' : TS} (h : PS X st t) (l : ∀ pins s σ H D, Inv X pins σ H s → t' D σ H → t D σ H) : PS X st t' := ⟨fun pins s σ H D I q => h.run pins s σ H D I (l pins s σ H D I q)⟩
theorem pss_le {t t' : TS} (h : PSs X rest t) (l : ∀ pins s σ H D, Inv X pins σ H s → t' D σ H → t D σ H) : PSs X rest t' := ⟨fun pins s σ H D I q => h.run pins s σ H D I (l pins s σ H D I q)⟩
def wNext : DTS := fun E δ => E.nx δ
def wSeq (t u : DTS) : DTS := fun E δ => t { E with nx := u E } δ
theorem jss_nil : JSs X [] wNext := pss_le pss_nil fun pins s σ H D I ⟨B, G, δ, E, rel, hw, k⟩ => k.nx σ H G δ hw (Same.refl _) rel
theorem jss_cons {t u : DTS} (h1 : JS X st t) (h2 : JSs X rest u) : JSs X (st :: rest) (wSeq t u) := pss_le (pss_cons h1 h2) fun pins s σ H D I ⟨B, G, δ, E, rel, hw, k⟩ =>
  ⟨B, G, δ, _, rel, hw, ⟨fun σ' H' G' δ' r s1 rel1 => ⟨B, G', δ', E, rel1, r, k.mono s1⟩, k.rt, k.bk, k.ct⟩⟩
theorem jss_one {t : DTS} (h : JS X st t) : JSs X [st] t := pss_one h
def wBrk : DTS := fun E δ => E.bk δ
def wCnt : DTS := fun E δ => E.ct δ
def wRet (w : DE) : DTS := fun E δ => w δ fun o δ1 => lk o δ1 fun x δ2 => E.rt x δ2
theorem js_ret {w : DE} (h : JE X e w) : JS X (.Return (some e) pos) (wRet w) := ps_le (ps_ret h) fun pins s σ H D I ⟨B, G, δ, E, rel, hw, k⟩ => ⟨B, G, δ, _, rel, hw, fun v H1 G1 o δ1 r1 s1 rel1 ok1 => by
  obtain ⟨G2, δ2, x, q, s2, rel2, dn⟩ := lk_ok rel1 ok1 r1
  exact k.rt v σ H1 G2 x δ2 q (s1.trans s2) rel2 dn⟩
def wRetN : DTS := fun E δ => E.rt .none δ
theorem js_retN : JS X (.Return none pos) wRetN := ps_le ps_retN fun pins s σ H D I ⟨B, G, δ, E, rel, hw, k⟩ => k.rt .non σ H G _ δ hw (Same.refl _) rel .non
def wIf (c : DT) (t u : DTS) : DTS := fun E δ => c δ fun b δ1 => if b = true then t E δ1 else u E δ1
theorem js_if {c : Expr} {p q : List Stmt} {tc : DT} {t u : DTS} (hc : JT X c tc) (hp : JSs X p t) (hq : JSs X q u) : JS X (.If c p q pos) (wIf tc t u) := ps_le (ps_if hc hp hq) fun pins s σ H D I ⟨B, G, δ, E, rel, hw, k⟩ => ⟨B, G, δ, _, rel, hw, fun b H1 G1 δ1 r1 s1 rel1 => by
  cases b with
  | true => rw [if_pos rfl] at r1 ⊢; exact ⟨B, G1, δ1, E, rel1, r1, k.mono s1⟩
  | false => rw [if_neg Bool.false_ne_true] at r1 ⊢; exact ⟨B, G1, δ1, E, rel1, r1, k.mono s1⟩⟩
/-- a statement or block that is never come to -/
def wNever : DTS := fun _ _ => False
def wDrop (w : DE) : DTS := fun E δ => w δ fun _ δ1 => E.nx δ1
def wSet (i : Nat) (w : DM) : DTS := fun E δ => w δ fun c δ1 => E.nx (δ1.set i c)
theorem js_set {i : Nat} {x : Str} {w : DM} {pos' : Pos} (hN : X.N.Nodup) (hi : X.N[i]? = some x) (hx : Loc X.env.scope x) (he : JM X e w) (hs : swapsWith e (some (.Name x pos')) pos.line X.env = pure false := by rfl) (hf : X.fn x = true ∨ X.env.scope.names.lookup x = some .local := by first | exact .inl rfl | exact .inr rfl | assumption) :
    JS X (.Assign [.Name x pos'] e pos) (wSet i w) := ps_le (ps_set hN hi hx he hs hf) fun pins s σ H D I ⟨B, G, δ, E, rel, hw, k⟩ => ⟨B, G, δ, _, rel, hw, fun v H1 G1 c δ1 r1 s1 rel1 hB ok1 => by
  have R2 := Rel.store (i := i) (l := []) (by rw [List.append_nil]; exact rel1) hB (fun _ _ m => nomatch m) ok1
  rw [bov_nil] at R2
  exact k.nx _ H1 G1 _ r1 s1 R2⟩
/-- a, b = e1, e2 -/
def wPar2 (i j : Nat) (w : DMs) : DTS := fun E δ => w δ fun cs δ1 => ∃ c d, cs = [c, d] ∧ E.nx ((δ1.set i c).set j d)
theorem js_par2 {i j : Nat} {x y : Str} {a b : Expr} {w : DMs} {px py pt : Pos} {kt k2 pt2} (hc : X.calm = true) (hN : X.N.Nodup) (hi : X.N[i]? = some x) (hj : X.N[j]? = some y) (hij : i ≠ j) (hx : X.env.scope.names.lookup x = some .local) (hy : X.env.scope.names.lookup y = some .local) (ha : JMs X [a, b] w)
    (hw : swappedStores [.Tuple [.Name x px, .Name y py] kt pt] (.Tuple [a, b] k2 pt2) X.env = pure (some [x, y]) := by rfl) (hs : swapsWithSole [.Tuple [.Name x px, .Name y py] kt pt] (.Tuple [a, b] k2 pt2) pos.line X.env = pure false := by rfl) :
    JS X (.Assign [.Tuple [.Name x px, .Name y py] kt pt] (.Tuple [a, b] k2 pt2) pos) (wPar2 i j w) := ps_le (ps_par hc hN hi hj hij hx hy ha hw hs) fun pins s σ H D I ⟨B, G, δ, E, rel, hw, k⟩ => ⟨B, G, δ, _, rel, hw, fun vs H1 G1 cs δ1 r1 s1 rel1 hB ok1 => by
  obtain ⟨c, d, rfl, q⟩ := r1
  cases ok1 with
  | cons h1 d1 t1 =>
    cases t1 with
    | cons h2 d2 t2 =>
      cases t2
      rename_i v u
      refine ⟨v, u, rfl, ?_⟩
      have e : fps [c, d] = c.fp ++ (d.fp ++ []) := by simp [fps]
      rw [e] at rel1
      have R2 := Rel.store (i := i) rel1 (fun a m => hB a (by simp [fps, m])) (fun a m => by have := d1 a m; simpa [fps] using this) h1
      have R3 := Rel.store (i := j) R2 (fun a m => hB a (by simp [fps, m])) (fun a m z => nomatch z) h2
      rw [bov_nil] at R3
      exact k.nx _ H1 G1 _ q s1 R3⟩
/-- x op= e -/
def wAug (i : Nat) (p : P2) (w : DE) : DTS := fun E δ => ∃ x, δ[i]? = some (.d x) ∧ w δ fun o δ1 => use o δ1 fun y => p x y fun z => E.nx (δ1.set i (.d z))
theorem js_aug {i : Nat} {x : Str} {w : DE} {op : Operator} {p : P2} {pos' : Pos} (hN : X.N.Nodup) (hi : X.N[i]? = some x) (hx : Loc X.env.scope x) (he : JE X e w) (ho : OpD X (inplaceOp op) p) (hf : X.fn x = true ∨ X.env.scope.names.lookup x = some .local := by first | exact .inl rfl | exact .inr rfl | assumption) :
    JS X (.AugAssign (.Name x pos') op e pos) (wAug i p w) := ps_le (ps_aug hN hi hx he (ti := rOf X.K p) ho hf) fun pins s σ H D I ⟨B, G, δ, E, rel, ⟨d, hd, hw⟩, k⟩ => by
  obtain ⟨o, hσ, v, rfl, dv⟩ := rel.at hd
  refine ⟨v, hσ, B, G, δ, _, rel, hw, fun u H1 G1 o δ1 r1 s1 rel1 ok1 => ?_⟩
  obtain ⟨y, q, by'⟩ := use_ok rel1 ok1 r1
  exact ⟨B, G1, δ1, σ, d, y, _, rel1, .inl (dv.mono s1), by', q, fun z H2 G2 dz rz s2 rel2 dnz => k.nx _ H2 G2 _ rz (s1.trans s2) (rel2.setD dnz)⟩
end
end DL
set_option Elab.async false
set_option linter.all false
set_option maxRecDepth 100000
set_option maxHeartbeats 4000000
namespace DL
open PySem PySem.Spec PyProof.Rows L2
variable [Tb]

abbrev DTG := PyData → DS → (DS → Prop) → Prop
abbrev DTGs := List PyData → DS → (DS → Prop) → Prop
/-- only the slots ts are stored -/
def Only (σ σ' : L2.St) (ts : List Nat) : Prop := ∀ vs : List Nat, (∀ t ∈ ts, t ∈ vs) → wipe σ' vs = wipe σ vs
theorem wipe_set {σ : L2.St} {i : Nat} {o : Option V} : ∀ {vs : List Nat}, i ∈ vs → wipe (σ.set i o) vs = wipe σ vs := by
  intro vs
  induction vs with
  | nil => intro h; cases h
  | cons v vs ih =>
    intro h
    unfold wipe
    by_cases hi : i ∈ vs
    · rw [ih hi]
    · have e : i = v := by
        rcases List.mem_cons.mp h with z | z
        · exact z
        · exact absurd z hi
      subst e
      have out : ∀ (σ : L2.St) (ws : List Nat), i ∉ ws → wipe (σ.set i o) ws = (wipe σ ws).set i o := by
        intro σ ws
        induction ws with
        | nil => intro _; rfl
        | cons w ws ih2 =>
          intro hw
          unfold wipe
          rw [ih2 (fun z => hw (List.mem_cons_of_mem _ z)), List.set_comm _ _ (fun z => hw (by rw [z]; exact List.mem_cons_self ..))]
      rw [out σ vs hi, List.set_set]
theorem Only.refl (σ : L2.St) (ts : List Nat) : Only σ σ ts := fun _ _ => rfl
theorem Only.trans {σ σ1 σ2 : L2.St} {ts us : List Nat} (a : Only σ σ1 ts) (b : Only σ1 σ2 us) : Only σ σ2 (ts ++ us) := fun vs h =>
  (b vs fun t m => h t (List.mem_append_right _ m)).trans (a vs fun t m => h t (List.mem_append_left _ m))
def upG (K : PySem.W.Frag) (ts : List Nat) (g : DTG) : TG := fun v σ H Q => ∃ B G δ x R, Rel K B G δ σ H ∧ Dn K G v x ∧ g x δ R ∧ ∀ σ' H' G' δ', R δ' → Same G G' → Rel K B G' δ' σ' H' → Only σ σ' ts → Q σ' H'
def upGs (K : PySem.W.Frag) (ts : List Nat) (g : DTGs) : TGs := fun vs σ H Q => ∃ B G δ xs R, Rel K B G δ σ H ∧ DnL K G vs xs ∧ g xs δ R ∧ ∀ σ' H' G' δ', R δ' → Same G G' → Rel K B G' δ' σ' H' → Only σ σ' ts → Q σ' H'
abbrev JG (X : Cx) (tg : Expr) (ts : List Nat) (g : DTG) : Prop := PG X tg (upG X.K ts g)
abbrev JGs (X : Cx) (tg : List Expr) (ts : List Nat) (g : DTGs) : Prop := PGs X tg (upGs X.K ts g)
def gN (i : Nat) : DTG := fun x δ R => R (δ.set i (.d x))
def gsNil : DTGs := fun xs δ R => match xs with
  | [] => R δ
  | _ => False
def gsCons (g : DTG) (r : DTGs) : DTGs := fun xs δ R => match xs with
  | x :: xs => g x δ fun δ1 => r xs δ1 R
  | [] => False
def gT (r : DTGs) : DTG := fun x δ R => match x with
  | .tuple xs => r xs δ R
  | _ => False
section
variable {X : Cx} {pos : Pos}
theorem pg_le {tg : Expr} {t t' : TG} (h : PG X tg t) (l : ∀ pins s v σ H Q, Inv X pins σ H s → t' v σ H Q → t v σ H Q) : PG X tg t' := ⟨fun pins s σ H v u Q I r q => h.run pins s σ H v u Q I r (l pins s v σ H Q I q)⟩
theorem pgs_le {tg : List Expr} {t t' : TGs} (h : PGs X tg t) (l : ∀ pins s v σ H Q, Inv X pins σ H s → t' v σ H Q → t v σ H Q) : PGs X tg t' := ⟨fun pins s σ H v u Q I r q => h.run pins s σ H v u Q I r (l pins s v σ H Q I q)⟩
theorem jg_name {i : Nat} {x : Str} (hN : X.N.Nodup) (hi : X.N[i]? = some x) (hx : Loc X.env.scope x) (hf : X.fn x = true ∨ X.env.scope.names.lookup x = some .local := by first | exact .inl rfl | exact .inr rfl | assumption) : JG X (.Name x pos) [i] (gN i) :=
  pg_le (pg_name hN hi hx hf) fun pins s v σ H Q I ⟨B, G, δ, d, R, rel, dn, hw, k⟩ => k _ H G _ hw (Same.refl _) (rel.setD dn) fun vs h => wipe_set (h i (List.mem_singleton.mpr rfl))
theorem jgs_nil : JGs X [] [] gsNil := pgs_le pgs_nil fun pins s v σ H Q I ⟨B, G, δ, d, R, rel, dn, hw, k⟩ => by
  cases dn with
  | nil => exact ⟨rfl, k σ H G δ hw (Same.refl _) rel (Only.refl _ _)⟩
  | cons a b => exact hw.elim
theorem jgs_cons {e : Expr} {es : List Expr} {ts us : List Nat} {g : DTG} {r : DTGs} (h1 : JG X e ts g) (h2 : JGs X es us r) (hs : (assignEach (e :: es) X.env).map (·.2) = assign e X.env :: (assignEach es X.env).map (·.2) := by rfl) : JGs X (e :: es) (ts ++ us) (gsCons g r) :=
  pgs_le (pgs_cons h1 h2 hs) fun pins s v σ H Q I ⟨B, G, δ, d, R, rel, dn, hw, k⟩ => by
    cases dn with
    | nil => exact hw.elim
    | cons a b => exact ⟨_, _, rfl, B, G, δ, _, _, rel, a, hw, fun σ1 H1 G1 δ1 r1 s1 rel1 o1 => ⟨B, G1, δ1, _, _, rel1, b.mono s1, r1, fun σ2 H2 G2 δ2 r2 s2 rel2 o2 => k σ2 H2 G2 δ2 r2 (s1.trans s2) rel2 (o1.trans o2)⟩⟩
theorem jg_tup {es : List Expr} {kk : Nat} {ts : List Nat} {r : DTGs} {n : Nat} (hc : X.calm = true) (h : JGs X es ts r) (hr : ∀ xs δ R, r xs δ R → xs.length = n)
    (hn : (assignEach es X.env).length = n := by rfl) (hst : (assignEach es X.env).findIdx? (·.1) = none := by rfl) : JG X (.Tuple es kk pos) ts (gT r) :=
  pg_le (pg_tup hc h hn hst) fun pins s v σ H Q I ⟨B, G, δ, d, R, rel, dn, hw, k⟩ => by
    cases dn with
    | tup hs ht => exact ⟨_, _, rfl, sqT_mono rel.sg (SqT.of hs), by rw [ht.len]; exact hr _ _ _ hw, B, G, δ, _, R, rel, ht, hw, k⟩
    | _ => exact hw.elim
end
theorem gs_len0 : ∀ xs δ R, gsNil xs δ R → xs.length = 0 := fun xs δ R h => by
  cases xs with
  | nil => rfl
  | cons x xs => exact h.elim
theorem gs_lenN {i : Nat} {r : DTGs} {n : Nat} (h : ∀ xs δ R, r xs δ R → xs.length = n) : ∀ xs δ R, gsCons (gN i) r xs δ R → xs.length = n + 1 := fun xs δ R q => by
  cases xs with
  | nil => exact q.elim
  | cons x xs => rw [List.length_cons, h xs _ R q]
/-- J gives the items, whatever is done meanwhile -/
def WalkD (K : PySem.W.Frag) (J : It) (G : Hp) (xs : List PyData) : Prop := ∀ (B G2 : Hp) (δ : DS) (σ : L2.St) (H : Hp), Same G G2 → Rel K B G2 δ σ H →
  (∀ i, i < xs.length → J.go i H) ∧ J.stop xs.length H ∧ ∀ i x d H', xs[i]? = some d → J.yld i H x H' → ∃ G3, Same G2 G3 ∧ Rel K B G3 δ σ H' ∧ Dn K G3 x d
def upI (K : PySem.W.Frag) (w : DL) : TI := fun σ H R => ∃ B G δ R', Rel K B G δ σ H ∧ w δ R' ∧ ∀ J H' G' xs δ', R' xs δ' → Same G G' → Rel K B G' δ' σ H' → WalkD K J G' xs → xs.length ≤ sizeLine → R J H'
abbrev JI (X : Cx) (tg iter : Expr) (w : DL) : Prop := PI X tg iter (upI X.K w)
section
variable {X : Cx} {tg : Expr} {pos : Pos}
theorem pi_le {iter : Expr} {t t' : TI} (h : PI X tg iter t) (l : ∀ pins s σ H R, Inv X pins σ H s → t' σ H R → t σ H R) : PI X tg iter t' := ⟨fun pins s σ H R I q => h.run pins s σ H R I (l pins s σ H R I q)⟩
theorem walk_of_list {K : PySem.W.Frag} {G : Hp} {a : Addr} {vs : List V} {xs : List PyData} (h : G a = some (.lst vs)) (t : DnL K G vs xs) (inj : ∀ (B G2 : Hp) (δ : DS) (σ : L2.St) (H : Hp), Same G G2 → Rel K B G2 δ σ H → True) : WalkD K (Itl K a) G xs := fun B G2 δ σ H s rel => by
  have hH : SqL K H a vs := SqL.of (rel.sg _ _ (s _ _ h))
  have hl := t.len
  refine ⟨fun i hi => ⟨vs, vs[i]'(by omega), hH, List.getElem?_eq_getElem (by omega)⟩, ⟨vs, hH, by omega⟩, fun i x d H' hd y => ?_⟩
  obtain ⟨rfl, y⟩ := y
  obtain ⟨v, hv, dv⟩ := t.get hd
  have e := y vs hH
  rw [hv] at e; cases e
  exact ⟨G2, Same.refl _, rel, dv.mono s⟩
theorem walk_of_tup {K : PySem.W.Frag} {G : Hp} {a : Addr} {vs : List V} {xs : List PyData} (h : SqT K G a vs) (t : DnL K G vs xs) : WalkD K (Itt K a) G xs := fun B G2 δ σ H s rel => by
  have hH : SqT K H a vs := sqT_mono rel.sg (sqT_mono s h)
  have hl := t.len
  refine ⟨fun i hi => ⟨vs, vs[i]'(by omega), hH, List.getElem?_eq_getElem (by omega)⟩, ⟨vs, hH, by omega⟩, fun i x d H' hd y => ?_⟩
  obtain ⟨rfl, y⟩ := y
  obtain ⟨v, hv, dv⟩ := t.get hd
  have e := y vs hH
  rw [hv] at e; cases e
  exact ⟨G2, Same.refl _, rel, dv.mono s⟩
/-- for x in a tuple, a list -/
def iSeq (w : DE) : DL := fun δ R => w δ fun o δ1 => lk o δ1 fun x δ2 => match x with
  | .tuple xs => R xs δ2
  | .list xs => R xs δ2
  | _ => False
/-- iter of a tuple or a list -/
def iEither (K : PySem.W.Frag) (t : TE) : TI := fun σ H R => t σ H fun x H1 => ∃ a, x = .ref a ∧ ((∃ xs, SqL K H1 a xs ∧ R (Itl K a) H1) ∨ (∃ xs, SqT K H1 a xs ∧ R (Itt K a) H1))
theorem pi_either {l : Expr} {tl : TE} (hl : PE X l tl) : PI X tg l (iEither X.K tl) where
  run pins s σ H R I h := by
    refine wpAny_mono (hl.run pins s σ H _ I h) ?_ fun _ _ z => z
    rintro v ⟨hp, gs, dr, tk, os⟩ ⟨_, H1, I1, r1, a, rfl, q⟩
    cases r1
    have own : ∀ b ∈ [hp.objs.size], FpOk X pins H1 b := List.forall_mem_singleton.mpr (I1.fpOk (Nat.le_refl _) (I1.hok.fresh (Nat.le_refl _)))
    have kept : ∀ {o : Obj} b u, hp.get? b = some u → (hp.push o).get? b = some u := fun _ _ e => Heap.get?_push_of_some _ e
    rcases q with ⟨xs, isL, q⟩ | ⟨xs, isT, q⟩
    · obtain ⟨_, _, at_a, _⟩ := I1.list isL
      exact wpAny_pyIter_list at_a.isList ⟨_, _, _, _, H1, rfl, I1.kept (t' := tk) kept, turn_list a _, ⟨_, Heap.get?_push_size _ rfl, rfl, rfl⟩, own, q⟩
    · obtain ⟨its, _, at_a, _⟩ := I1.tuple isT
      exact wpAny_pyIter_tuple (show hp.IsTuple a its.toArray from at_a) ⟨_, _, _, _, H1, rfl, I1.kept (t' := tk) kept, turn_tuple a _, ⟨_, Heap.get?_push_size _ rfl, rfl, rfl⟩, own, q⟩
/-- what the length of a list or tuple is bounded by -/
theorem piB {l : Expr} {w : DE} (h : JE X l w) : PE X l (fun σ H Q => up X.K w σ H fun v H1 => (∀ a xs, v = .ref a → (SqL X.K H1 a xs ∨ SqT X.K H1 a xs) → xs.length ≤ sizeLine) → Q v H1) where
  run pins s σ H Q I q := wpAny_mono (h.run pins s σ H _ I q) (fun v s1 ⟨x, H1, I1, r1, q1⟩ => ⟨x, H1, I1, r1, q1 fun a xs _ hs => hs.elim (fun z => (I1.list z).elim fun _ z => z.2.2) (fun z => (I1.tuple z).elim fun _ z => z.2.2)⟩) fun _ _ z => z
theorem ji_seq {l : Expr} {w : DE} (h : JE X l w) : JI X tg l (iSeq w) := pi_le (pi_either (piB h)) fun pins s σ H R I ⟨B, G, δ, R', rel, hw, k⟩ => ⟨B, G, δ, _, rel, hw, fun v H1 G1 o δ1 r1 s1 rel1 ok1 hz => by
  obtain ⟨G2, δ2, x, q, s2, rel2, dn⟩ := lk_ok rel1 ok1 r1
  cases dn with
  | lst hs t => exact ⟨_, rfl, .inl ⟨_, SqL.of (rel2.sg _ _ hs), k _ H1 G2 _ δ2 q (s1.trans s2) rel2 (walk_of_list hs t fun _ _ _ _ _ _ _ => trivial) (by rw [← t.len]; exact hz _ _ rfl (.inl (SqL.of (rel2.sg _ _ hs))))⟩⟩
  | tup hs t => exact ⟨_, rfl, .inr ⟨_, sqT_mono rel2.sg (SqT.of hs), k _ H1 G2 _ δ2 q (s1.trans s2) rel2 (walk_of_tup (SqT.of hs) t) (by rw [← t.len]; exact hz _ _ rfl (.inr (sqT_mono rel2.sg (SqT.of hs))))⟩⟩
  | _ => exact q.elim⟩
/-- for i in range(n), range(m, n) -/
def nums (lo : Int) (n : Nat) : List PyData := (List.range n).map fun (i : Nat) => PyData.int (lo + (i : Int))
theorem walk_of_range {K : PySem.W.Frag} {G : Hp} {lo : Int} {n : Nat} : WalkD K (Itr lo n) G (nums lo n) := fun B G2 δ σ H s rel => by
  have hl : (nums lo n).length = n := by simp [nums]
  refine ⟨fun i hi => by rw [hl] at hi; exact hi, by rw [hl]; exact Nat.le_refl _, fun i x d H' hd y => ?_⟩
  obtain ⟨rfl, rfl⟩ := y
  unfold nums at hd
  rw [List.getElem?_map] at hd
  cases e : (List.range n)[i]? with
  | none => rw [e] at hd; cases hd
  | some j =>
    rw [e] at hd
    obtain ⟨h1, h2⟩ := List.getElem?_eq_some_iff.mp e
    rw [List.getElem_range] at h2
    cases hd
    subst h2
    exact ⟨G2, Same.refl _, rel, Dn.int _⟩
def iRange1 (w : DA) : DL := fun δ R => w δ fun os δ1 => useL os δ1 fun xs => ∃ j, xs = [PyData.int j] ∧ -1000000 ≤ j ∧ j ≤ 1000000 ∧ R (nums 0 j.toNat) δ1
def iRange2 (w : DA) : DL := fun δ R => w δ fun os δ1 => useL os δ1 fun xs => ∃ i j, xs = [PyData.int i, PyData.int j] ∧ (-1000000 ≤ i ∧ i ≤ 1000000 ∧ -1000000 ≤ j ∧ j ≤ 1000000) ∧ R (nums i (j - i).toNat) δ1
theorem nums_len {lo : Int} {n : Nat} : (nums lo n).length = n := by simp [nums]
theorem ji_range1 {a : Expr} {w : DA} {p : Pos} (hg : Gl X "range") (hm : X.mg "range" = none) (ha : JA X [a] w) (hs : starEach [a] X.env = [(false, eval a X.env)] := by rfl) : JI X tg (.Call (.Name "range" p) [a] [] pos) (iRange1 w) :=
  pi_le (pi_range1 hg hm ha hs) fun pins s σ H R I ⟨B, G, δ, R', rel, hw, k⟩ => ⟨B, G, δ, _, rel, hw, fun vs H1 G1 os δ1 r1 s1 rel1 ok1 => by
    obtain ⟨xs, ⟨j, rfl, h1, h2, q⟩, b⟩ := useL_ok rel1 ok1 r1
    obtain ⟨v, rfl, bv⟩ := b.one
    obtain rfl := bor_int bv
    exact ⟨j, rfl, by omega, by omega, k _ H1 G1 _ δ1 q s1 rel1 walk_of_range (by rw [nums_len, sizeLine_eq]; omega)⟩⟩
theorem ji_range2 {a b : Expr} {w : DA} {p : Pos} (hg : Gl X "range") (hm : X.mg "range" = none) (ha : JA X [a, b] w) (hs : starEach [a, b] X.env = [(false, eval a X.env), (false, eval b X.env)] := by rfl) (hs2 : starEach [b] X.env = [(false, eval b X.env)] := by rfl) : JI X tg (.Call (.Name "range" p) [a, b] [] pos) (iRange2 w) :=
  pi_le (pi_range2 hg hm ha hs hs2) fun pins s σ H R I ⟨B, G, δ, R', rel, hw, k⟩ => ⟨B, G, δ, _, rel, hw, fun vs H1 G1 os δ1 r1 s1 rel1 ok1 => by
    obtain ⟨xs, ⟨i, j, rfl, h1, q⟩, b⟩ := useL_ok rel1 ok1 r1
    obtain ⟨v, u, rfl, bv, bu⟩ := b.two
    obtain rfl := bor_int bv
    obtain rfl := bor_int bu
    exact ⟨i, j, rfl, ⟨by omega, by omega, by omega, by omega⟩, k _ H1 G1 _ δ1 q s1 rel1 walk_of_range (by rw [nums_len, sizeLine_eq]; omega)⟩⟩
/-- pairs -/
def pairsD : List PyData → List PyData → List PyData
  | x :: xs, y :: ys => .tuple [x, y] :: pairsD xs ys
  | _, _ => []
end
end DL
set_option Elab.async false
set_option linter.all false
set_option maxRecDepth 100000
set_option maxHeartbeats 4000000
namespace DL
open PySem PySem.Spec PyProof.Rows L2
variable [Tb]

def forIt (g : DTG) (b : DTS) : List PyData → DEnds → DS → Prop
  | [], E, δ => E.nx δ
  | x :: xs, E, δ => g x δ fun δ1 => b { nx := forIt g b xs E, rt := E.rt, bk := E.nx, ct := forIt g b xs E } δ1
def wFor (wi : DL) (g : DTG) (b : DTS) : DTS := fun E δ => wi δ fun xs δ1 => forIt g b xs E δ1
section
variable {X : Cx} {pos : Pos}
theorem js_for {tg iter : Expr} {body : List Stmt} {wi : DL} {g : DTG} {b : DTS} {ts : List Nat} (hp : PassesOwn (model X.prog X.w) X.A X.env X.xe) (hc : X.calm = true) (hi : JI X tg iter wi) (hg : JG X tg ts g) (hb : JSs X body b)
    (hs : ∀ x, foldedSetIterable iter X.env x = pure x := by intro _; rfl) : JS X (.For tg iter body [] pos) (wFor wi g b) := ps_le (ps_for hp hc hi hg hb hs) fun pins s σ H D I ⟨B, G, δ, E, rel, hw, k⟩ => by
  refine ⟨B, G, δ, _, rel, hw, fun J H1 G1 xs δ1 r1 s1 rel1 wk hl => ?_⟩
  refine ⟨fun i m σ' H' => m = xs.length - i ∧ i ≤ xs.length ∧ ∃ G2 δ2, Same G1 G2 ∧ Rel X.K B G2 δ2 σ' H' ∧ forIt g b (xs.drop i) E δ2, ⟨xs.length, by simp, Nat.zero_le _, G1, δ1, Same.refl _, rel1, by simpa using r1⟩, ?_⟩
  rintro i m σ2 H2 ⟨rfl, hi', G2, δ2, s2, rel2, q⟩
  obtain ⟨go, stop, yld⟩ := wk B G2 δ2 σ2 H2 s2 rel2
  by_cases hlt : i < xs.length
  · have ed : xs.drop i = xs[i] :: xs.drop (i + 1) := List.drop_eq_getElem_cons hlt
    rw [ed] at q
    refine .inr ⟨go i hlt, fun σ' H' => ∃ G3 δ3, Same G1 G3 ∧ Rel X.K B G3 δ3 σ' H' ∧ forIt g b (xs.drop (i + 1)) E δ3, fun σ' H' ⟨G3, δ3, s3, rel3, q3⟩ => ⟨xs.length - (i + 1), by omega, rfl, hlt, G3, δ3, s3, rel3, q3⟩, fun x H3 y => ?_⟩
    obtain ⟨G3, s3, rel3, dn⟩ := yld i x _ H3 (List.getElem?_eq_getElem hlt) y
    refine ⟨B, G3, δ2, _, _, rel3, dn, q, fun σ4 H4 G4 δ4 r4 s4 rel4 _ => ?_⟩
    have sa := s1.trans (s2.trans (s3.trans s4))
    exact ⟨B, G4, δ4, _, rel4, r4, ⟨fun σ' H' G5 δ5 r5 s5 rel5 => ⟨G5, δ5, s2.trans (s3.trans (s4.trans s5)), rel5, r5⟩, fun v σ' H' G5 x5 δ5 r5 s5 rel5 d5 => k.rt v σ' H' G5 x5 δ5 r5 (sa.trans s5) rel5 d5,
      fun σ' H' G5 δ5 r5 s5 rel5 => k.nx σ' H' G5 δ5 r5 (sa.trans s5) rel5, fun σ' H' G5 δ5 r5 s5 rel5 => ⟨G5, δ5, s2.trans (s3.trans (s4.trans s5)), rel5, r5⟩⟩⟩
  · have e : i = xs.length := by omega
    subst e
    rw [List.drop_length] at q
    exact .inl ⟨stop, k.nx σ2 H2 G2 δ2 q (s1.trans s2) rel2⟩
def wWhile (c : DT) (b : DTS) : DTS := fun E δ => ∃ W : Nat → DS → Prop, (∃ m, W m δ) ∧ ∀ m δ, W m δ → c δ fun k δ1 => if k = true then b { nx := fun δ' => ∃ m', m' < m ∧ W m' δ', rt := E.rt, bk := E.nx, ct := fun δ' => ∃ m', m' < m ∧ W m' δ' } δ1 else E.nx δ1
theorem js_while {c : Expr} {body : List Stmt} {tc : DT} {b : DTS} (hp : PassesOwn (model X.prog X.w) X.A X.env X.xe) (hc : JT X c tc) (hb : JSs X body b) : JS X (.While c body [] pos) (wWhile tc b) := ps_le (ps_while hp hc hb) fun pins s σ H D I ⟨B, G, δ, E, rel, ⟨W, ⟨m0, w0⟩, turn⟩, k⟩ => by
  refine ⟨fun m σ' H' => ∃ G2 δ2, Same G G2 ∧ Rel X.K B G2 δ2 σ' H' ∧ W m δ2, ⟨m0, G, δ, Same.refl _, rel, w0⟩, ?_⟩
  rintro m σ2 H2 ⟨G2, δ2, s2, rel2, q⟩
  refine ⟨B, G2, δ2, _, rel2, turn m δ2 q, fun kb H3 G3 δ3 r3 s3 rel3 => ?_⟩
  cases kb with
  | false => rw [if_neg Bool.false_ne_true] at r3 ⊢; exact k.nx σ2 H3 G3 δ3 r3 (s2.trans s3) rel3
  | true =>
    rw [if_pos rfl] at r3 ⊢
    have sa := s2.trans s3
    refine ⟨fun σ' H' => ∃ G4 δ4, Same G G4 ∧ Rel X.K B G4 δ4 σ' H' ∧ ∃ m', m' < m ∧ W m' δ4, fun σ' H' ⟨G4, δ4, s4, rel4, m', hm, w4⟩ => ⟨m', hm, G4, δ4, s4, rel4, w4⟩, B, G3, δ3, _, rel3, r3, ?_⟩
    exact ⟨fun σ' H' G5 δ5 r5 s5 rel5 => ⟨G5, δ5, sa.trans s5, rel5, r5⟩, fun v σ' H' G5 x5 δ5 r5 s5 rel5 d5 => k.rt v σ' H' G5 x5 δ5 r5 (sa.trans s5) rel5 d5, fun σ' H' G5 δ5 r5 s5 rel5 => k.nx σ' H' G5 δ5 r5 (sa.trans s5) rel5, fun σ' H' G5 δ5 r5 s5 rel5 => ⟨G5, δ5, sa.trans s5, rel5, r5⟩⟩
end

def wipeD (δ : DS) : List Nat → DS
  | [] => δ
  | v :: vs => (wipeD δ vs).set v .em
def keepC : Cell → Cell
  | .d x => .d x
  | _ => .em
def backD (δ0 δ : DS) : List Nat → DS
  | [] => δ
  | v :: vs => (backD δ0 δ vs).set v (keepC ((δ0[v]?).getD .em))
def compIt (g : DTG) (t : DT) (e : DE) (vs : List Nat) : List PyData → List PyData → DS → (List PyData → DS → Prop) → Prop
  | [], acc, δ, R => R acc δ
  | x :: xs, acc, δ, R => g x δ fun δ1 => t δ1 fun b δ2 => if b = true then e δ2 fun o δ3 => lk o δ3 fun y δ4 => compIt g t e vs xs (acc ++ [y]) (wipeD δ4 vs) R else compIt g t e vs xs acc (wipeD δ2 vs) R
def wComp (wi : DL) (g : DTG) (t : DT) (e : DE) (vs : List Nat) : DL := fun δ R => wi δ fun xs δ1 => compIt g t e vs xs [] (wipeD δ1 vs) fun ys δ2 => R ys (backD δ1 δ2 vs)
def tT : DT := fun δ R => R true δ
abbrev JTs (X : Cx) (es : List Expr) (w : DT) : Prop := PTs X es (upT X.K w)
section
variable {K : PySem.W.Frag} {B G H : Hp} {δ : DS} {σ : L2.St}
theorem Rel.wipe (R : Rel K B G δ σ H) : ∀ vs : List Nat, Rel K B G (wipeD δ vs) (L2.wipe σ vs) H
  | [] => R
  | v :: vs => (Rel.wipe R vs).clear none
theorem wipeD_em {i : Nat} : ∀ {vs : List Nat} {δ : DS}, i ∈ vs → (wipeD δ vs)[i]? = none ∨ (wipeD δ vs)[i]? = some .em
  | [], _, h => by cases h
  | v :: vs, δ, h => by
    unfold wipeD
    by_cases hv : v = i
    · subst hv
      rw [List.getElem?_set]
      simp only [if_true]
      split
      · exact .inr rfl
      · exact .inl rfl
    · rw [List.getElem?_set_ne hv]
      rcases List.mem_cons.mp h with z | z
      · exact absurd z.symm hv
      · exact wipeD_em z
theorem wipe_at {i : Nat} : ∀ {vs : List Nat} {σ : L2.St}, i ∉ vs → (L2.wipe σ vs)[i]? = σ[i]? := fun h => wipe_out h
theorem Rel.unwipe {vs : List Nat} {σ : L2.St} (R : Rel K B G (wipeD δ vs) (L2.wipe σ vs) H) : Rel K B G (wipeD δ vs) σ H := by
  refine ⟨by rw [← R.len, wipe_length], R.sg, R.sb, R.dj, fun i c o e1 e2 => ?_, R.ap, R.fr, R.tt⟩
  by_cases h : i ∈ vs
  · rcases wipeD_em (δ := δ) h with z | z
    · rw [z] at e1; cases e1
    · rw [z] at e1; cases e1; trivial
  · exact R.ok i c o e1 (by rw [wipe_at h]; exact e2)
theorem Rel.back {G0 : Hp} {δ0 : DS} {H0 : Hp} {B0 : Hp} (R : Rel K B G δ σ H) (R0 : Rel K B0 G0 δ0 σ H0) (s : Same G0 G) : ∀ vs : List Nat, Rel K B G (backD δ0 δ vs) σ H
  | [] => R
  | v :: vs => by
    have ih := Rel.back R R0 s vs
    have em : Rel K B G ((backD δ0 δ vs).set v .em) σ H := by
      cases hσ : σ[v]? with
      | some o => exact ih.recell hσ trivial fun a m => nomatch m
      | none =>
        have hl : (backD δ0 δ vs).length ≤ v := by
          rw [← ih.len]; exact List.getElem?_eq_none_iff.mp hσ
        rw [List.set_eq_of_length_le hl]; exact ih
    unfold backD
    cases e : δ0[v]? with
    | none => exact em
    | some c =>
      cases c with
      | d x =>
        obtain ⟨o, hσ, w, rfl, dn⟩ := R0.at e
        exact ih.recell hσ ⟨w, rfl, dn.mono s⟩ fun a m => nomatch m
      | _ => exact em
theorem wipe_wipe (σ : L2.St) (vs : List Nat) : L2.wipe (L2.wipe σ vs) vs = L2.wipe σ vs := by
  have h : ∀ (us : List Nat) (σ : L2.St), (∀ u ∈ us, u ∈ vs) → L2.wipe (L2.wipe σ us) vs = L2.wipe σ vs := by
    intro us
    induction us with
    | nil => intro σ _; rfl
    | cons u us ih =>
      intro σ hu
      show L2.wipe ((L2.wipe σ us).set u none) vs = _
      rw [wipe_set (hu u (List.mem_cons_self ..)), ih σ fun x m => hu x (List.mem_cons_of_mem _ m)]
  exact h vs σ fun _ m => m
end
section
variable {X : Cx} {pos : Pos}
theorem jts_nil : JTs X [] tT := ⟨fun pins s σ H Q I ⟨B, G, δ, R, rel, hw, k⟩ => pts_nil.run pins s σ H Q I (k true H G δ hw (Same.refl _) rel)⟩
theorem jts_one {c : Expr} {t : DT} (h : JT X c t) : JTs X [c] t := pts_one h
theorem comp_up {wi : DL} {g : DTG} {t : DT} {e : DE} {ts vs : List Nat} {K : PySem.W.Frag} {σ : L2.St} {H : Hp} {Q : VK} (hts : ∀ t ∈ ts, t ∈ vs) (h : upL K (wComp wi g t e vs) σ H Q) : tLc (upI K wi) (upG K ts g) (upT K t) (up K e) vs σ H Q := by
  obtain ⟨B, G, δ, R, rel, hw, k⟩ := h
  refine ⟨B, G, δ, _, rel, hw, fun J H1 G1 xs δ1 r1 s1 rel1 wk hl D nD => ?_⟩
  have bD := rel1.freeB nD
  refine ⟨fun i m H' => m = xs.length - i ∧ i ≤ xs.length ∧ ∃ accV accD G2 δ2, Same G1 G2 ∧ Rel K (upd B D (.lst accV)) G2 (wipeD δ2 vs) (wipe σ vs) H' ∧ DnL K G2 accV accD ∧ accV.length ≤ i ∧ compIt g t e vs (xs.drop i) accD (wipeD δ2 vs) (fun ys δ2 => R ys (backD δ1 δ2 vs)),
    ⟨xs.length, by simp, Nat.zero_le _, [], [], G1, δ1, Same.refl _, (rel1.growB nD).wipe vs, .nil, Nat.zero_le _, by simpa using r1⟩, ?_⟩
  rintro i m H2 ⟨rfl, hi, accV, accD, G2, δ2, s2, rel2, dacc, hal, q⟩
  obtain ⟨go, stop, yld⟩ := wk _ G2 _ _ H2 s2 rel2
  by_cases hlt : i < xs.length
  · have ed : xs.drop i = xs[i] :: xs.drop (i + 1) := List.drop_eq_getElem_cons hlt
    rw [ed] at q
    refine .inr ⟨go i hlt, fun H' => ∃ accV accD G3 δ3, Same G1 G3 ∧ Rel K (upd B D (.lst accV)) G3 (wipeD δ3 vs) (wipe σ vs) H' ∧ DnL K G3 accV accD ∧ accV.length ≤ i + 1 ∧ compIt g t e vs (xs.drop (i + 1)) accD (wipeD δ3 vs) (fun ys δ2 => R ys (backD δ1 δ2 vs)),
      fun H' ⟨a1, a2, a3, a4, a5, a6, a7, a8, a9⟩ => ⟨xs.length - (i + 1), by omega, rfl, hlt, a1, a2, a3, a4, a5, a6, a7, a8, a9⟩, fun x H3 y => ?_⟩
    obtain ⟨G3, s3, rel3, dn⟩ := yld i x _ H3 (List.getElem?_eq_getElem hlt) y
    refine ⟨_, G3, _, _, _, rel3, dn, q, fun σ4 H4 G4 δ4 r4 s4 rel4 ho => ?_⟩
    have ew : wipe σ4 vs = wipe σ vs := by rw [ho vs hts, wipe_wipe]
    refine ⟨ew, _, G4, δ4, _, rel4, r4, fun b H5 G5 δ5 r5 s5 rel5 => ?_⟩
    cases b with
    | false =>
      rw [if_neg Bool.false_ne_true] at r5 ⊢
      have R6 := rel5.wipe vs
      rw [ew] at R6
      exact ⟨accV, accD, G5, δ5, s2.trans (s3.trans (s4.trans s5)), R6, DnL.mono (s3.trans (s4.trans s5)) _ dacc, by omega, r5⟩
    | true =>
      rw [if_pos rfl] at r5 ⊢
      refine ⟨_, G5, δ5, _, rel5, r5, fun v H6 G6 o δ6 r6 s6 rel6 ok6 => ?_⟩
      obtain ⟨G7, δ7, z, q7, s7, rel7, dz⟩ := lk_ok rel6 ok6 r6
      refine ⟨accV, rel7.sb _ _ upd_same, by omega, accV ++ [v], accD ++ [z], G7, δ7, s2.trans (s3.trans (s4.trans (s5.trans (s6.trans s7)))), ?_, (DnL.mono (s3.trans (s4.trans (s5.trans (s6.trans s7)))) _ dacc).app (.cons dz .nil), by simp; omega, q7⟩
      have R8 := (rel7.putB (p := D) (o := .lst (accV ++ [v])) upd_same notTE_lst).wipe vs
      rw [upd_upd, ew] at R8
      exact R8
  · have e1 : i = xs.length := by omega
    subst e1
    rw [List.drop_length] at q
    refine .inl ⟨stop, ?_⟩
    exact k D accV H2 G2 accD _ q (s1.trans s2) (rel2.unwipe.back rel1 s2 vs) bD dacc
theorem jl_comp {elt tg iter : Expr} {ifs : List Expr} {scope : Scope} {own : List (Str × Nat)} {wi : DL} {g : DTG} {t : DT} {e : DE} {ts : List Nat} (hc : X.calm = true) (hN : X.N.Nodup) (hi : JI X tg iter wi) (ok : BlkOk X.N X.env.scope scope own) (hts : ∀ t ∈ ts, t ∈ own.map (·.2))
    (hg : ∀ (s : Shared) (H : Hp) (C : Addr) (cl : List (Str × Addr)) (fp : List Addr), JG (X.blk s H scope (compEnvC scope cl C X.env) fp) tg ts g) (ht : ∀ (s : Shared) (H : Hp) (C : Addr) (cl : List (Str × Addr)) (fp : List Addr), JTs (X.blk s H scope (compEnvC scope cl C X.env) fp) ifs t)
    (he : ∀ (s : Shared) (H : Hp) (C : Addr) (cl : List (Str × Addr)) (fp : List Addr), JE (X.blk s H scope (compEnvC scope cl C X.env) fp) elt e) (hs : ∀ x, foldedSetIterable iter X.env x = pure x := by intro _; rfl) :
    JL X (.ListComp elt [⟨tg, iter, ifs, 0⟩] scope pos) (wComp wi g t e (own.map (·.2))) :=
  pe_le (pe_lc hc hN hi ok hg ht he hs) fun _ _ _ _ _ _ h => comp_up hts h
theorem upM_l {w : DL} {K : PySem.W.Frag} {σ : L2.St} {H : Hp} {Q : VK} (h : upM K (mL w) σ H Q) : upL K w σ H Q := by
  obtain ⟨B, G, δ, R, rel, hw, k⟩ := h
  refine ⟨B, G, δ, _, rel, hw, fun a vs H1 G1 xs δ1 r1 s1 rel1 hB t => ?_⟩
  have ha : H1 a = some (.lst vs) := rel1.sb _ _ upd_same
  have e : bov B H1 [a] = upd B a (.lst vs) := by
    funext b
    unfold bov upd
    by_cases hb : b = a
    · subst hb; simp [ha]
    · simp [hb]
  exact k (.ref a) H1 G1 (.ol a xs) δ1 (r1 a) s1 (by show Rel K (bov B H1 [a]) G1 δ1 σ H1; rw [e]; exact rel1) (fun b m => by rw [List.mem_singleton.mp m]; exact hB) ⟨rfl, vs, ha, t⟩
theorem up_l {w : DL} {K : PySem.W.Frag} {σ : L2.St} {H : Hp} {Q : VK} (h : up K (wOfL w) σ H Q) : upL K w σ H Q := by
  obtain ⟨B, G, δ, R, rel, hw, k⟩ := h
  refine ⟨B, G, δ, _, rel, hw, fun a vs H' G' xs δ' r sG rel' hB t => ?_⟩
  obtain ⟨rel2, s2⟩ := rel'.takeB (p := a) hB (fun b hb => (upd_ne hb).symm) upd_same
  exact k _ H' _ _ _ r (sG.trans s2) rel2 (Dn.lst upd_same (t.mono s2))
theorem upM_e {w : DE} {K : PySem.W.Frag} {σ : L2.St} {H : Hp} {Q : VK} (h : upM K (mE w) σ H Q) : up K w σ H Q := by
  obtain ⟨B, G, δ, R, rel, hw, k⟩ := h
  refine ⟨B, G, δ, _, rel, hw, fun v H1 G1 o δ1 r1 s1 rel1 ok1 => ?_⟩
  obtain ⟨G2, δ2, x, q, s2, rel2, dn⟩ := lk_ok rel1 ok1 r1
  exact k v H1 G2 (.d x) δ2 q (s1.trans s2) (by show Rel K (bov B H1 []) G2 δ2 σ H1; rw [bov_nil]; exact rel2) (fun a m => nomatch m) ⟨v, rfl, dn⟩
/-- a statement name = value, by the value's way -/
theorem js_asg {st : Stmt} {i : Nat} {te : TE} {w : DM} (h : PS X st (tAsg te (gName i))) (l : ∀ σ H Q, upM X.K w σ H Q → te σ H Q) : JS X st (wSet i w) := ps_le h fun pins s σ H D I ⟨B, G, δ, E, rel, hw, k⟩ => by
  refine l σ H _ ⟨B, G, δ, _, rel, hw, fun v H1 G1 c δ1 r1 s1 rel1 hB ok1 => ?_⟩
  have R2 := Rel.store (i := i) (l := []) (by rw [List.append_nil]; exact rel1) hB (fun _ _ m => nomatch m) ok1
  rw [bov_nil] at R2
  exact k.nx _ H1 G1 _ r1 s1 R2
/-- x = [..], one's own -/
theorem js_setCL {i : Nat} {y : Str} {py spos : Pos} {elt tg iter : Expr} {ifs : List Expr} {scope : Scope} {own : List (Str × Nat)} {wi : DL} {g : DTG} {t : DT} {e : DE} {ts : List Nat} (hc : X.calm = true) (hN : X.N.Nodup) (hy : X.N[i]? = some y) (hyl : X.env.scope.names.lookup y = some .local)
    (hsw : swapsWith (.ListComp elt [⟨tg, iter, ifs, 0⟩] scope pos) (some (.Name y py)) spos.line X.env = pure true) (hi : JI X tg iter wi) (ok : BlkOk X.N X.env.scope scope own) (hts : ∀ t ∈ ts, t ∈ own.map (·.2))
    (hg : ∀ (s : Shared) (H : Hp) (C : Addr) (cl : List (Str × Addr)) (fp : List Addr), JG (X.blk s H scope (compEnvC scope cl C X.env) fp) tg ts g) (ht : ∀ (s : Shared) (H : Hp) (C : Addr) (cl : List (Str × Addr)) (fp : List Addr), JTs (X.blk s H scope (compEnvC scope cl C X.env) fp) ifs t)
    (he : ∀ (s : Shared) (H : Hp) (C : Addr) (cl : List (Str × Addr)) (fp : List Addr), JE (X.blk s H scope (compEnvC scope cl C X.env) fp) elt e) (hs : ∀ x, foldedSetIterable iter X.env x = pure x := by intro _; rfl) :
    JS X (.Assign [.Name y py] (.ListComp elt [⟨tg, iter, ifs, 0⟩] scope pos) spos) (wSet i (mL (wComp wi g t e (own.map (·.2))))) :=
  js_asg (ps_setLc hc hN hy hyl hsw hi ok hg ht he hs) fun σ H Q h => comp_up hts (upM_l h)
/-- x = [..], given away -/
theorem js_setCE {i : Nat} {y : Str} {py spos : Pos} {elt tg iter : Expr} {ifs : List Expr} {scope : Scope} {own : List (Str × Nat)} {wi : DL} {g : DTG} {t : DT} {e : DE} {ts : List Nat} (hc : X.calm = true) (hN : X.N.Nodup) (hy : X.N[i]? = some y) (hyl : X.env.scope.names.lookup y = some .local)
    (hsw : swapsWith (.ListComp elt [⟨tg, iter, ifs, 0⟩] scope pos) (some (.Name y py)) spos.line X.env = pure true) (hi : JI X tg iter wi) (ok : BlkOk X.N X.env.scope scope own) (hts : ∀ t ∈ ts, t ∈ own.map (·.2))
    (hg : ∀ (s : Shared) (H : Hp) (C : Addr) (cl : List (Str × Addr)) (fp : List Addr), JG (X.blk s H scope (compEnvC scope cl C X.env) fp) tg ts g) (ht : ∀ (s : Shared) (H : Hp) (C : Addr) (cl : List (Str × Addr)) (fp : List Addr), JTs (X.blk s H scope (compEnvC scope cl C X.env) fp) ifs t)
    (he : ∀ (s : Shared) (H : Hp) (C : Addr) (cl : List (Str × Addr)) (fp : List Addr), JE (X.blk s H scope (compEnvC scope cl C X.env) fp) elt e) (hs : ∀ x, foldedSetIterable iter X.env x = pure x := by intro _; rfl) :
    JS X (.Assign [.Name y py] (.ListComp elt [⟨tg, iter, ifs, 0⟩] scope pos) spos) (wSet i (mE (wOfL (wComp wi g t e (own.map (·.2)))))) :=
  js_asg (ps_setLc hc hN hy hyl hsw hi ok hg ht he hs) fun σ H Q h => comp_up hts (up_l (upM_e h))
def isOl (δ : DS) (i : Nat) : Prop := ∃ a xs, δ[i]? = some (.ol a xs)
def wAppend (i : Nat) (w : DE) : DTS := fun E δ => isOl δ i ∧ w δ fun o δ1 => lk o δ1 fun y δ2 => match δ2[i]? with
  | some (.ol a xs) => xs.length ≤ 1000000 ∧ E.nx (δ2.set i (.ol a (xs ++ [y])))
  | _ => False
theorem js_append {i : Nat} {e : Expr} {x : Str} {w : DE} {px apos cpos : Pos} (hx : PE X (.Name x px) (tVar i)) (he : JE X e w) (hs : swapsWith (.Call (.Attribute (.Name x px) "append" apos) [e] [] cpos) none pos.line X.env = pure false := by rfl) (hsE : starEach [e] X.env = (false, eval e X.env) :: starEach [] X.env := by rfl)
    (hb : PE X (.Call (.Attribute (.Name x px) "append" apos) [e] [] cpos) (tBM X.K "list" rAppend (tVar i) (tCons (up X.K w) tNil))) : JS X (.Expr (.Call (.Attribute (.Name x px) "append" apos) [e] [] cpos) pos) (wAppend i w) :=
  ps_le (ps_expr hb hs) fun pins s σ H D I ⟨B, G, δ, E, rel, ⟨⟨a, xs, hδ⟩, hw⟩, k⟩ => by
    obtain ⟨o, hσ, rfl, vs, ha, t⟩ := rel.at hδ
    refine ⟨.ref a, hσ, .inl ⟨rfl, _, SqL.of ha⟩, B, G, δ, _, rel, hw, fun v H1 G1 o δ1 r1 s1 rel1 ok1 => ?_⟩
    obtain ⟨G2, δ2, y, q, s2, rel2, dn⟩ := lk_ok rel1 ok1 r1
    cases e2 : δ2[i]? with
    | none => rw [e2] at q; exact q.elim
    | some c =>
      rw [e2] at q
      cases c with
      | ol b ys =>
        obtain ⟨o2, hσ2, e3, ws, hb, t2⟩ := rel2.at e2
        rw [hσ] at hσ2
        cases hσ2
        cases e3
        obtain ⟨q1, q2⟩ := q
        refine ⟨a, ws, v, rfl, rfl, hb, by rw [t2.len, sizeLine_eq]; omega, ?_⟩
        exact k.nx _ _ G2 _ q2 (s1.trans s2) (rel2.write e2 (t2.app (.cons dn .nil)))
      | _ => exact q.elim
def wExtend (i : Nat) (w : DE) : DTS := fun E δ => isOl δ i ∧ w δ fun o δ1 => use o δ1 fun y => ∃ ys, y = .list ys ∧ match δ1[i]? with
  | some (.ol a xs) => xs.length + ys.length ≤ 1000000 ∧ E.nx (δ1.set i (.ol a (xs ++ ys)))
  | _ => False
theorem js_extend {i : Nat} {e : Expr} {x : Str} {w : DE} {px apos cpos : Pos} (hx : PE X (.Name x px) (tVar i)) (he : JE X e w) (hs : swapsWith (.Call (.Attribute (.Name x px) "extend" apos) [e] [] cpos) none pos.line X.env = pure false := by rfl) (hsE : starEach [e] X.env = (false, eval e X.env) :: starEach [] X.env := by rfl)
    (hb : PE X (.Call (.Attribute (.Name x px) "extend" apos) [e] [] cpos) (tBM X.K "list" rExtend (tVar i) (tCons (up X.K w) tNil))) : JS X (.Expr (.Call (.Attribute (.Name x px) "extend" apos) [e] [] cpos) pos) (wExtend i w) :=
  ps_le (ps_expr hb hs) fun pins s σ H D I ⟨B, G, δ, E, rel, ⟨⟨a, xs, hδ⟩, hw⟩, k⟩ => by
    obtain ⟨o, hσ, rfl, vs, ha, t⟩ := rel.at hδ
    refine ⟨.ref a, hσ, .inl ⟨rfl, _, SqL.of ha⟩, B, G, δ, _, rel, hw, fun v H1 G1 o δ1 r1 s1 rel1 ok1 => ?_⟩
    obtain ⟨y, ⟨ys, rfl, q⟩, by'⟩ := use_ok rel1 ok1 r1
    obtain ⟨b, zs, rfl, hb, tb⟩ := bor_lst rel1 by'
    cases e2 : δ1[i]? with
    | none => rw [e2] at q; exact q.elim
    | some c =>
      rw [e2] at q
      cases c with
      | ol a' ws =>
        obtain ⟨o2, hσ2, e3, us, hu, t2⟩ := rel1.at e2
        rw [hσ] at hσ2
        cases hσ2
        cases e3
        obtain ⟨q1, q2⟩ := q
        refine ⟨a, b, us, zs, rfl, rfl, hu, hb, by rw [t2.len, tb.len]; exact million q1, ?_⟩
        exact k.nx _ _ G1 _ q2 s1 (rel1.write e2 (t2.app tb))
      | _ => exact q.elim
/-- x[i] = e -/
def wPut (i : Nat) (we wi : DE) : DTS := fun E δ => we δ fun o δ1 => lk o δ1 fun y δ2 => isOl δ2 i ∧ wi δ2 fun oj δ3 => use oj δ3 fun j => match j, δ3[i]? with
  | .int j, some (.ol a xs) => ∃ n, ixN xs.length j = some n ∧ E.nx (δ3.set i (.ol a (xs.set n y)))
  | _, _ => False
theorem js_put {i : Nat} {e j : Expr} {x : Str} {we wi : DE} {px apos : Pos} (hj : JE X j wi) (he : JE X e we)
    (hb : PS X (.Assign [.Subscript (.Name x px) j apos] e pos) (tAsg (up X.K we) (gSub (tVar i) (up X.K wi) rSetL))) : JS X (.Assign [.Subscript (.Name x px) j apos] e pos) (wPut i we wi) :=
  ps_le hb fun pins s σ H D I ⟨B, G, δ, E, rel, hw, k⟩ => ⟨B, G, δ, _, rel, hw, fun v H1 G1 o δ1 r1 s1 rel1 ok1 => by
    obtain ⟨G2, δ2, y, q, s2, rel2, dn⟩ := lk_ok rel1 ok1 r1
    obtain ⟨⟨a, xs, hδ⟩, q⟩ := q
    obtain ⟨o0, hσ, rfl, vs, ha, t⟩ := rel2.at hδ
    refine ⟨.ref a, hσ, B, G2, δ2, _, rel2, q, fun u H3 G3 oj δ3 r3 s3 rel3 ok3 => ?_⟩
    obtain ⟨jd, q3, bj⟩ := use_ok rel3 ok3 r3
    cases jd with
    | int jn =>
      cases e2 : δ3[i]? with
      | none => rw [e2] at q3; exact q3.elim
      | some c =>
        rw [e2] at q3
        cases c with
        | ol a' ws =>
          obtain ⟨o2, hσ2, e3, us, hu, t2⟩ := rel3.at e2
          rw [hσ] at hσ2
          cases hσ2
          cases e3
          obtain ⟨n, hn, q4⟩ := q3
          refine ⟨a, us, jn, n, rfl, bor_int bj, hu, by rw [t2.len]; exact hn, ?_⟩
          exact k.nx _ _ G3 _ q4 (s1.trans (s2.trans s3)) (rel3.write e2 (DnL.set (dn.mono s3) n t2))
        | _ => exact q3.elim
    | _ => exact q3.elim⟩
/-- x.pop() of a list of one's own -/
def wPop (i : Nat) : DE := fun δ R => match δ[i]? with
  | some (.ol a xs) => ∃ y, xs.getLast? = some y ∧ R (.d y) (δ.set i (.ol a xs.dropLast))
  | _ => False
end
end DL
set_option Elab.async false
set_option linter.all false
set_option maxRecDepth 100000
set_option maxHeartbeats 4000000
namespace DL
open PySem PySem.Spec PyProof.Rows L2
variable [Tb]

structure RoomG (k : Nat) (A : Around) : Prop where
  rm : Room k A
  gd : A.guards = some []
theorem RoomG.mono {j k : Nat} {A : Around} (r : RoomG k A) (h : j ≤ k) : RoomG j A := ⟨r.rm.mono h, r.gd⟩
theorem RoomG.deeper {k : Nat} {A : Around} (r : RoomG (k + 1) A) (env : Env) : RoomG k (A.deeper env) := ⟨r.rm.deeper env, r.gd⟩
theorem RoomG.u64 {k : Nat} {A : Around} (r : RoomG k A) : A.units + 64 < cLine := r.rm.units
theorem RoomG.u65 {k : Nat} {A : Around} (r : RoomG k A) : A.units + 65 < cLine := by have := r.rm.un; omega
structure FnG (P : Program) (w : World) (K : PySem.W.Frag) (mg : Str → Option Value) (base : Heap) (CX : CXT) (k : Nat) (f : Addr) (fd : FuncData) (ps : List Str) (sp : Sp) : Prop where
  len (vs : List V) (H : Hp) (Q : VK) (E : XK) (_ : sp vs H Q E) : vs.length = ps.length
  run : ∀ (A : Around) (outer : List Env) (s : Shared) (H : Hp) (args : Args) (us : List Value) (vs : List V) (Q : VK) (E : XK), RoomG k A → Env0 P w K mg base A outer s H →
    BindsTo s fd args (ps.zip us) → Vals vs us → sp vs H Q E → codeAny (model P w) A (.call (.ref f) args) (CR CX outer P w H s Q E) s
section
variable {P : Program} {w : World} {K : PySem.W.Frag} {mg : Str → Option Value} {base : Heap} {CX : CXT}
theorem FnG.mono {j k : Nat} {f : Addr} {fd : FuncData} {ps : List Str} {sp : Sp} (F : FnG P w K mg base CX j f fd ps sp) (h : j ≤ k) : FnG P w K mg base CX k f fd ps sp :=
  ⟨F.len, fun A outer s H args us vs Q E hr => F.run A outer s H args us vs Q E (hr.mono h)⟩
theorem fnG_of {k : Nat} {f : Addr} {name qual : Str} {params : Arguments} {body : List Stmt} {scope : Scope} {dV kV doc pm cdv ct oc : Value} {an od : Option Addr} {osl : Array (Option Value)} {N ps : List Str} {sp : Sp}
    (lk : K.lookup f = some ⟨oc, od, .func (PySem.W.fnOf name qual params body scope dV kV doc pm an cdv ct), osl⟩) (hcd : PySem.W.codeIn K cdv qual = true) (S : FnScope N ps scope) (len : ∀ vs H Q E, sp vs H Q E → vs.length = ps.length)
    (hbody : ∀ (A : Around) (outer : List Env) (s : Shared) (H : Hp) (vs : List V) (Q : VK) (E : XK), RoomG k (A.deeper (envOfC qual scope s.heap.objs.size f cdv)) → sp vs H Q E →
      ∃ t, PSs (cxOf CX P w K mg base N qual scope f cdv A outer s H E) body t ∧ t { nx := fun _ H' => Q .non H', rt := Q } (L2.start N vs) H) : FnG P w K mg base CX (k + 1) f (PySem.W.fnOf name qual params body scope dV kV doc pm an cdv ct) ps sp := by
  refine ⟨len, ?_⟩
  intro A outer s H args us vs Q E room e0 binds r hsp
  have many : vs.length = ps.length := len _ _ _ _ hsp
  have kept : ∀ b o, base.get? b = some o → s.heap.get? b = some o := fun b o e => (e0.bs b o e).1
  have kinds : ∀ y ∈ ps.zip us, scope.names.lookup y.1 = some .local ∨
      (scope.names.lookup y.1 = some .cell ∧ ((cellsFrom (s.heap.objs.size + 1) scope.names []).lookup y.1).isSome = true) := by
    rintro ⟨n, v⟩ m
    rcases S.par n (List.of_mem_zip m).1 with q | q
    · exact .inl q
    · exact .inr ⟨q, PySem.W.cellsFrom_some _ _ _ (.inl q)⟩
  have kin := e0.mod.kin.keeps kept
  refine codeAny_call_function room.rm.depth (kin _ _ lk) rfl S.co S.gen rfl (PySem.W.codeRec_of kin hcd) (binds _ _ _ _ (wpAny_newFunctionEnv_cells S.kind kinds ?_))
  rintro _ rfl s1 made
  obtain ⟨t, body', ht⟩ := hbody A outer s H vs Q E (room.deeper _) hsp
  refine ⟨(e0.mod.nolimit.keeps kept).keeps made.toInCall.keep, codeAny_func (wpAny_mono (body'.run [] s1 (L2.start N vs) H _ (inv_start (CX := CX) (E := E) (N := N) (qual := qual) (f := f) (cd := cdv) S room.rm.hd e0 many r made) ht) ?_ fun _ _ z => z)⟩
  rintro (_ | _ | _ | u) s' g
  · obtain ⟨_, H', J, q⟩ := g; exact ⟨V.non, H', J.os, J.bare, J.base, J.hok, rfl, q⟩
  · exact g.elim fun _ g => g.elim fun _ g => g.2.elim
  · exact g.elim fun _ g => g.elim fun _ g => g.2.elim
  · obtain ⟨v, _, H', J, rv, q⟩ := g; exact ⟨v, H', J.os, J.bare, J.base, J.hok, rv, q⟩
end

abbrev DSp := List Cell → (PyData → List Cell → Prop) → Prop
def liftSp (K : PySem.W.Frag) (sp : DSp) : Sp := fun vs H Q _ => ∃ B G cs R, Rel K B G cs (vs.map some) H ∧ sp cs R ∧ ∀ v H' G' x cs', R x cs' → Same G G' → Rel K B G' cs' (vs.map some) H' → Dn K G' v x → Q v H'
/-- what the arguments' cells are behind the call: data stays, one's own is as the slot tells -/
def outC : List Cell → DS → List Cell
  | [], _ => []
  | .d x :: cs, _ :: δ => .d x :: outC cs δ
  | .em :: cs, _ :: δ => .em :: outC cs δ
  | .scr a ns :: cs, _ :: δ => .scr a ns :: outC cs δ
  | .dx a b c xs n ys :: cs, _ :: δ => .dx a b c xs n ys :: outC cs δ
  | _ :: cs, e :: δ => e :: outC cs δ
  | _, [] => []
def sameIo : List Cell → DS → Prop
  | [], _ => True
  | .ol a _ :: cs, e :: δ => (∃ ys, e = .ol a ys) ∧ sameIo cs δ
  | .dk a b c :: cs, e :: δ => e = .dk a b c ∧ sameIo cs δ
  | .dx .. :: cs, e :: δ => False
  | .xc .. :: cs, e :: δ => False
  | .od a _ :: cs, e :: δ => (∃ ys, e = .od a ys) ∧ sameIo cs δ
  | .ob a n _ :: cs, e :: δ => (∃ ys, e = .ob a n ys) ∧ sameIo cs δ
  | _ :: cs, _ :: δ => sameIo cs δ
  | _ :: _, [] => False
theorem outC_at : ∀ {cs : List Cell} {δ : DS} {i : Nat} {c : Cell}, sameIo cs δ → (outC cs δ)[i]? = some c → ∃ c0, cs[i]? = some c0 ∧ (((∃ x, c0 = .d x) ∨ c0 = .em ∨ ∃ a ns, c0 = .scr a ns) ∧ c = c0 ∨ (∃ a xs ys, c0 = .ol a xs ∧ c = .ol a ys ∧ δ[i]? = some c) ∨ (∃ a b d, c0 = .dk a b d ∧ c = c0 ∧ δ[i]? = some c) ∨ (∃ a xs ys, c0 = .od a xs ∧ c = .od a ys ∧ δ[i]? = some c) ∨ (∃ a n xs ys, c0 = .ob a n xs ∧ c = .ob a n ys ∧ δ[i]? = some c))
  | [], _, _, _, _, h => by simp [outC] at h
  | c0 :: cs, [], _, _, s, h => by cases c0 <;> exact s.elim
  | c0 :: cs, e :: δ, 0, c, s, h => by
    refine ⟨c0, rfl, ?_⟩
    cases c0 with
    | em => simp [outC] at h; exact .inl ⟨.inr (.inl rfl), h.symm⟩
    | scr a ns => simp [outC] at h; exact .inl ⟨.inr (.inr ⟨a, ns, rfl⟩), h.symm⟩
    | dx => exact s.elim
    | xc => exact s.elim
    | d x => simp [outC] at h; exact .inl ⟨.inl ⟨x, rfl⟩, h.symm⟩
    | ol a xs => simp [outC] at h; obtain ⟨⟨ys, e1⟩, _⟩ := s; exact .inr (.inl ⟨a, xs, ys, rfl, by rw [← h, e1], by simp [h]⟩)
    | dk a b d => simp [outC] at h; obtain ⟨e1, _⟩ := s; exact .inr (.inr (.inl ⟨a, b, d, rfl, by rw [← h, e1], by simp [h]⟩))
    | od a xs => simp [outC] at h; obtain ⟨⟨ys, e1⟩, _⟩ := s; exact .inr (.inr (.inr (.inl ⟨a, xs, ys, rfl, by rw [← h, e1], by simp [h]⟩)))
    | ob a n xs => simp [outC] at h; obtain ⟨⟨ys, e1⟩, _⟩ := s; exact .inr (.inr (.inr (.inr ⟨a, n, xs, ys, rfl, by rw [← h, e1], by simp [h]⟩)))
  | c0 :: cs, e :: δ, i + 1, c, s, h => by
    have s' : sameIo cs δ := by cases c0 <;> first | exact s | exact s.2 | exact s.elim
    have h' : (outC cs δ)[i]? = some c := by cases c0 <;> simpa [outC] using h
    obtain ⟨c1, e1, q⟩ := outC_at s' h'
    refine ⟨c1, by simpa using e1, ?_⟩
    simpa using q
theorem outC_len : ∀ {cs : List Cell} {δ : DS}, sameIo cs δ → (outC cs δ).length = cs.length
  | [], _, _ => rfl
  | c0 :: cs, [], s => by cases c0 <;> exact s.elim
  | c0 :: cs, e :: δ, s => by
    have s' : sameIo cs δ := by cases c0 <;> first | exact s | exact s.2 | exact s.elim
    cases c0 <;> simp [outC, outC_len s']
def endsOf (cs : List Cell) (R : PyData → List Cell → Prop) : DEnds := { nx := fun δ => sameIo cs δ ∧ R .none (outC cs δ), rt := fun x δ => sameIo cs δ ∧ R x (outC cs δ) }
def start0 (n : Nat) (cs : List Cell) : DS := cs ++ List.replicate (n - cs.length) .em
section
variable {P : Program} {w : World} {K : PySem.W.Frag} {mg : Str → Option Value} {base : Heap}
theorem rel_start {B G H : Hp} {cs : List Cell} {vs : List V} {N : List Str} (R : Rel K B G cs (vs.map some) H) : Rel K B G (start0 N.length cs) (L2.start N vs) H := by
  have hl : vs.length = cs.length := by have := R.len; simpa using this
  have get : ∀ {i : Nat} {c : Cell}, (start0 N.length cs)[i]? = some c → cs[i]? = some c ∨ c = Cell.em := fun {i c} e => by
    unfold start0 at e
    by_cases hi : i < cs.length
    · rw [List.getElem?_append_left hi] at e; exact .inl e
    · rw [List.getElem?_append_right (by omega), List.getElem?_replicate] at e
      split at e
      · cases e; exact .inr rfl
      · cases e
  refine ⟨by simp [start0, L2.start, hl], R.sg, R.sb, R.dj, fun i c o e1 e2 => ?_, fun i j c c' a e1 e2 m1 m2 => ?_, fun i c a e m => ?_, R.tt⟩
  · rcases get e1 with q | rfl
    · have hi : i < cs.length := (List.getElem?_eq_some_iff.mp q).1
      unfold L2.start at e2
      rw [List.getElem?_append_left (by rw [List.length_map, hl]; exact hi)] at e2
      exact R.ok i c o q e2
    · trivial
  · rcases get e1 with q1 | rfl
    · rcases get e2 with q2 | rfl
      · exact R.ap i j c c' a q1 q2 m1 m2
      · cases m2
    · cases m1
  · rcases get e with q | rfl
    · exact R.fr i c a q m
    · cases m
theorem rel_end {B G G' H H' : Hp} {cs : List Cell} {vs : List V} {δ : DS} {σ : L2.St} (R0 : Rel K B G cs (vs.map some) H) (R : Rel K B G' δ σ H') (s : Same G G') (io : sameIo cs δ) : Rel K B G' (outC cs δ) (vs.map some) H' := by
  refine ⟨by rw [outC_len io, ← R0.len], R.sg, R.sb, R.dj, fun i c o e1 e2 => ?_, fun i j c c' a e1 e2 m1 m2 => ?_, fun i c a e m => ?_, R.tt⟩
  · obtain ⟨c0, e0, q⟩ := outC_at io e1
    have ok0 := R0.ok i c0 o e0 e2
    rcases q with ⟨h, rfl⟩ | ⟨a, xs, ys, rfl, rfl, ed⟩ | ⟨a, b, d, rfl, rfl, ed⟩ | ⟨a, xs, ys, rfl, rfl, ed⟩ | ⟨a, n, xs, ys, rfl, rfl, ed⟩
    · rcases h with ⟨x, rfl⟩ | rfl | ⟨a, ns, rfl⟩
      · obtain ⟨v, e, dn⟩ := ok0; exact ⟨v, e, dn.mono s⟩
      · trivial
      · exact ⟨ok0.1, s.seq ok0.2⟩
    · obtain ⟨o', _, _, r⟩ := R.at ed
      exact ⟨ok0.1, r⟩
    · obtain ⟨o', _, _, r⟩ := R.at ed
      exact ⟨ok0.1, r⟩
    · obtain ⟨o', _, _, r⟩ := R.at ed
      exact ⟨ok0.1, r⟩
    · obtain ⟨o', _, _, r⟩ := R.at ed
      exact ⟨ok0.1, r⟩
  · obtain ⟨c0, e0, q⟩ := outC_at io e1
    obtain ⟨c1, e3, q'⟩ := outC_at io e2
    have h1 : δ[i]? = some c := by
      rcases q with ⟨h, rfl⟩ | ⟨a, xs, ys, rfl, rfl, ed⟩ | ⟨a, b, d, rfl, rfl, ed⟩ | ⟨a, xs, ys, rfl, rfl, ed⟩ | ⟨a, n, xs, ys, rfl, rfl, ed⟩
      · rcases h with ⟨x, rfl⟩ | rfl | ⟨a, ns, rfl⟩ <;> cases m1
      · exact ed
      · exact ed
      · exact ed
      · exact ed
    have h2 : δ[j]? = some c' := by
      rcases q' with ⟨h, rfl⟩ | ⟨a, xs, ys, rfl, rfl, ed⟩ | ⟨a, b, d, rfl, rfl, ed⟩ | ⟨a, xs, ys, rfl, rfl, ed⟩ | ⟨a, n, xs, ys, rfl, rfl, ed⟩
      · rcases h with ⟨x, rfl⟩ | rfl | ⟨a, ns, rfl⟩ <;> cases m2
      · exact ed
      · exact ed
      · exact ed
      · exact ed
    exact R.ap i j c c' a h1 h2 m1 m2
  · obtain ⟨c0, e0, q⟩ := outC_at io e
    have h1 : δ[i]? = some c := by
      rcases q with ⟨h, rfl⟩ | ⟨a, xs, ys, rfl, rfl, ed⟩ | ⟨a, b, d, rfl, rfl, ed⟩ | ⟨a, xs, ys, rfl, rfl, ed⟩ | ⟨a, n, xs, ys, rfl, rfl, ed⟩
      · rcases h with ⟨x, rfl⟩ | rfl | ⟨a, ns, rfl⟩ <;> cases m
      · exact ed
      · exact ed
      · exact ed
      · exact ed
    exact R.fr i c a h1 m
/-- THE RULE: a def keeps its promise over data, by its body's reading -/
theorem okD {x qual : Str} {st : Stmt} {f : Addr} {fd : FuncData} {N ps : List Str} {k : Nat} {sp : DSp} {wb : DTS} (F : Fun K x qual st f fd) (S : FnScope N ps (defScope st)) (dl : ∀ cs R, sp cs R → cs.length = ps.length)
    (body : ∀ (cdv : Value) (A : Around) (outer : List Env) (s : Shared) (H : Hp) (E : XK), RoomG k (A.deeper (envOfC qual (defScope st) s.heap.objs.size f cdv)) → JSs (cxOf CX0 P w K mg base N qual (defScope st) f cdv A outer s H E).nox (defBody st) wb)
    (rd : ∀ cs R, sp cs R → wb (endsOf cs R) (start0 N.length cs)) : FnG P w K mg base CX0 (k + 1) f fd ps (liftSp K sp) := by
  obtain ⟨oc, od, kV, doc, pm, an, cdv, ct, osl, rfl, lk, hcd⟩ := F.ex
  refine fnG_of lk hcd S (fun vs H Q E ⟨B, G, cs, R, rel, hs, _⟩ => by rw [← dl cs R hs, ← rel.len, List.length_map]) fun A outer s H vs Q E hr ⟨B, G, cs, R, rel, hs, k⟩ => ?_
  refine ⟨_, (body cdv A outer s H E hr).nox, B, G, _, endsOf cs R, rel_start rel, rd cs R hs, ?_⟩
  exact ⟨fun σ' H' G' δ' ⟨io, r⟩ sG rel' => k _ H' G' _ _ r sG (rel_end rel rel' sG io) .non, fun v σ' H' G' x δ' ⟨io, r⟩ sG rel' dn => k v H' G' x _ r sG (rel_end rel rel' sG io) dn, fun _ _ _ _ h => h.elim, fun _ _ _ _ h => h.elim⟩
end

/-- own slots that are handed over (m: which), the other operands given away -/
def lkM : List Bool → List Opd → DS → (List Opd → DS → Prop) → Prop
  | _, [], δ, k => k [] δ
  | m, o :: os, δ, k => if m.headD false = true then lkM m.tail os δ fun r δ' => k (o :: r) δ' else lk o δ fun x δ1 => lkM m.tail os δ1 fun r δ' => k (.d x :: r) δ'
def cellOf (δ : DS) : Opd → Cell
  | .d x => .d x
  | .s i => (δ[i]?).getD .em
def putBack : List Opd → List Cell → DS → DS
  | .s i :: os, c :: cs, δ => putBack os cs (δ.set i c)
  | .d _ :: os, _ :: cs, δ => putBack os cs δ
  | _, _, δ => δ
def slotsOf : List Opd → List Nat
  | [] => []
  | .s i :: os => i :: slotsOf os
  | .d _ :: os => slotsOf os
def wCall (m : List Bool) (sp : DSp) (w : DA) : DE := fun δ R => w δ fun os δ1 => lkM m os δ1 fun os' δ2 => (slotsOf os').Nodup ∧ sp (os'.map (cellOf δ2)) fun x cs => R (.d x) (putBack os' cs δ2)
theorem lkM_ok {K : PySem.W.Frag} {B H : Hp} {σ : L2.St} : ∀ {m : List Bool} {vs : List V} {os : List Opd} {G : Hp} {δ : DS} {k : List Opd → DS → Prop}, Rel K B G δ σ H → OpdsOk K G σ vs os → lkM m os δ k → ∃ G' δ' os', k os' δ' ∧ Same G G' ∧ Rel K B G' δ' σ H ∧ OpdsOk K G' σ vs os'
  | _, _, [], G, δ, k, R, h, q => by cases h; exact ⟨G, δ, [], by simpa [lkM] using q, Same.refl _, R, .nil⟩
  | m, _, o :: os, G, δ, k, R, h, q => by
    cases h with
    | cons a b =>
      unfold lkM at q
      split at q
      · obtain ⟨G1, δ1, os', q1, s1, R1, ok1⟩ := lkM_ok R b q
        exact ⟨G1, δ1, o :: os', q1, s1, R1, .cons (a.mono s1) ok1⟩
      · obtain ⟨G1, δ1, x, q1, s1, R1, d1⟩ := lk_ok R a q
        obtain ⟨G2, δ2, os', q2, s2, R2, ok2⟩ := lkM_ok R1 (b.mono s1) q1
        exact ⟨G2, δ2, .d x :: os', q2, s1.trans s2, R2, .cons (Dn.mono s2 _ d1) ok2⟩
theorem mem_slots {os : List Opd} {i : Nat} : i ∈ slotsOf os ↔ ∃ j : Nat, os[j]? = some (Opd.s i) := by
  induction os with
  | nil => simp [slotsOf]
  | cons o os ih =>
    cases o with
    | d x =>
      simp only [slotsOf, ih]
      constructor
      · rintro ⟨j, e⟩; exact ⟨j + 1, by simpa using e⟩
      · rintro ⟨j, e⟩
        cases j with
        | zero => simp at e
        | succ j => exact ⟨j, by simpa using e⟩
    | s i' =>
      simp only [slotsOf, List.mem_cons, ih]
      constructor
      · rintro (rfl | ⟨j, e⟩)
        · exact ⟨0, rfl⟩
        · exact ⟨j + 1, by simpa using e⟩
      · rintro ⟨j, e⟩
        cases j with
        | zero => simp at e; exact .inl e.symm
        | succ j => exact .inr ⟨j, by simpa using e⟩
theorem slots_uniq {os : List Opd} (h : (slotsOf os).Nodup) : ∀ {j k i : Nat}, os[j]? = some (Opd.s i) → os[k]? = some (Opd.s i) → j = k := by
  induction os with
  | nil => intro j k i e; simp at e
  | cons o os ih =>
    intro j k i e1 e2
    have h' : (slotsOf os).Nodup := by
      cases o with
      | d x => exact h
      | s i' => exact (List.nodup_cons.mp h).2
    cases j with
    | zero =>
      cases k with
      | zero => rfl
      | succ k =>
        simp at e1; subst e1
        exact absurd (mem_slots.mpr ⟨k, by simpa using e2⟩) (List.nodup_cons.mp h).1
    | succ j =>
      cases k with
      | zero =>
        simp at e2; subst e2
        exact absurd (mem_slots.mpr ⟨j, by simpa using e1⟩) (List.nodup_cons.mp h).1
      | succ k => exact congrArg (· + 1) (ih (i := i) h' (by simpa using e1) (by simpa using e2))
theorem opds_at {K : PySem.W.Frag} {G : Hp} {σ : L2.St} : ∀ {vs : List V} {os : List Opd} {j : Nat} {o : Opd}, OpdsOk K G σ vs os → os[j]? = some o → ∃ v, vs[j]? = some v ∧ OpdOk K G σ v o
  | _, [], _, _, h, e => by simp at e
  | _, o :: os, 0, _, h, e => by cases h with | cons a b => simp at e; subst e; exact ⟨_, rfl, a⟩
  | _, o :: os, j + 1, x, h, e => by
    cases h with
    | cons a b =>
      obtain ⟨v, h1, h2⟩ := opds_at (j := j) b (by simpa using e)
      exact ⟨v, by simpa using h1, h2⟩
theorem opds_len {K : PySem.W.Frag} {G : Hp} {σ : L2.St} : ∀ {vs : List V} {os : List Opd}, OpdsOk K G σ vs os → vs.length = os.length
  | _, [], h => by cases h; rfl
  | _, o :: os, h => by cases h with | cons a b => simp [opds_len b]
/-- what a callee must leave as it is: what is kept for others, and the slots' own objects that aren't handed over -/
noncomputable def hold (B H : Hp) (δ : DS) (io : List Nat) : Hp := by
  classical
  exact fun a => if ∃ i c, δ[i]? = some c ∧ a ∈ c.fp ∧ i ∉ io then H a else B a
section
variable {K : PySem.W.Frag} {B G H : Hp} {δ : DS} {σ : L2.St} {io : List Nat} {a : Addr}
theorem hold_in (h : ∃ i c, δ[i]? = some c ∧ a ∈ c.fp ∧ i ∉ io) : hold B H δ io a = H a := by unfold hold; exact if_pos h
theorem hold_out (h : ¬ ∃ i c, δ[i]? = some c ∧ a ∈ c.fp ∧ i ∉ io) : hold B H δ io a = B a := by unfold hold; exact if_neg h
theorem call_rel {vs : List V} {os : List Opd} (R : Rel K B G δ σ H) (ok : OpdsOk K G σ vs os) (nd : (slotsOf os).Nodup) : Rel K (hold B H δ (slotsOf os)) G (os.map (cellOf δ)) (vs.map some) H := by
  have getc : ∀ {j : Nat} {c : Cell}, (os.map (cellOf δ))[j]? = some c → ∃ o, os[j]? = some o ∧ c = cellOf δ o := fun {j c} e => by
    rw [List.getElem?_map] at e
    cases h : os[j]? with
    | none => rw [h] at e; cases e
    | some o => rw [h] at e; cases e; exact ⟨o, rfl, rfl⟩
  have own : ∀ {j : Nat} {c : Cell} {a : Addr}, (os.map (cellOf δ))[j]? = some c → a ∈ c.fp → ∃ i, os[j]? = some (.s i) ∧ δ[i]? = some c := fun {j c a} e m => by
    obtain ⟨o, e1, rfl⟩ := getc e
    cases o with
    | d x => cases m
    | s i =>
      refine ⟨i, e1, ?_⟩
      have m' : a ∈ ((δ[i]?).getD Cell.em).fp := m
      show δ[i]? = some ((δ[i]?).getD Cell.em)
      cases h : δ[i]? with
      | none => rw [h] at m'; cases m'
      | some c => rfl
  refine ⟨by simp [opds_len ok], R.sg, fun a o e => ?_, fun a => ?_, fun j c o e1 e2 => ?_, fun j k c c' a e1 e2 m1 m2 => ?_, fun j c a e m => ?_, R.tt⟩
  · by_cases h : ∃ i c, δ[i]? = some c ∧ a ∈ c.fp ∧ i ∉ slotsOf os
    · rw [hold_in h] at e; exact e
    · rw [hold_out h] at e; exact R.sb _ _ e
  · by_cases h : ∃ i c, δ[i]? = some c ∧ a ∈ c.fp ∧ i ∉ slotsOf os
    · obtain ⟨i, c, h1, h2, _⟩ := h
      exact .inl (R.fr i c a h1 h2).1
    · rw [hold_out h]; exact R.dj a
  · obtain ⟨od, e3, rfl⟩ := getc e1
    obtain ⟨v, e4, okv⟩ := opds_at ok e3
    rw [List.getElem?_map, e4] at e2
    cases e2
    cases od with
    | d x => exact ⟨v, rfl, okv⟩
    | s i =>
      have hσ : σ[i]? = some (some v) := okv
      show CellOk K G H ((δ[i]?).getD Cell.em) (some v)
      cases h : δ[i]? with
      | none => trivial
      | some c => exact R.ok i c _ h hσ
  · obtain ⟨i, h1, h2⟩ := own e1 m1
    obtain ⟨i', h3, h4⟩ := own e2 m2
    have := R.ap i i' c c' a h2 h4 m1 m2
    subst this
    exact slots_uniq nd h1 h3
  · obtain ⟨i, h1, h2⟩ := own e m
    obtain ⟨f1, f2⟩ := R.fr i c a h2 m
    refine ⟨f1, ?_⟩
    rw [hold_out]
    · exact f2
    · rintro ⟨i', c', h3, h4, h5⟩
      have := R.ap i i' c c' a h2 h3 m h4
      subst this
      exact h5 (mem_slots.mpr ⟨j, h1⟩)
theorem putBack_at : ∀ {os : List Opd} {cs : List Cell} {δ : DS} {i : Nat} {c : Cell}, os.length = cs.length → (slotsOf os).Nodup → (putBack os cs δ)[i]? = some c → (i ∉ slotsOf os ∧ δ[i]? = some c) ∨ ∃ j : Nat, os[j]? = some (Opd.s i) ∧ cs[j]? = some c
  | [], cs, δ, i, c, hl, nd, h => by unfold putBack at h; exact .inl ⟨(fun m => nomatch m), h⟩
  | o :: os, [], δ, i, c, hl, nd, h => by simp at hl
  | .d x :: os, c0 :: cs, δ, i, c, hl, nd, h => by
    rcases putBack_at (os := os) (cs := cs) (by simpa using hl) nd (by simpa [putBack] using h) with ⟨h1, h2⟩ | ⟨j, h1, h2⟩
    · exact .inl ⟨h1, h2⟩
    · exact .inr ⟨j + 1, by simpa using h1, by simpa using h2⟩
  | .s i0 :: os, c0 :: cs, δ, i, c, hl, nd, h => by
    rcases putBack_at (os := os) (cs := cs) (by simpa using hl) (List.nodup_cons.mp nd).2 (by simpa [putBack] using h) with ⟨h1, h2⟩ | ⟨j, h1, h2⟩
    · by_cases hi : i0 = i
      · subst hi
        rw [List.getElem?_set] at h2
        simp only [if_true] at h2
        split at h2
        · cases h2; exact .inr ⟨0, rfl, rfl⟩
        · cases h2
      · rw [List.getElem?_set_ne hi] at h2
        exact .inl ⟨fun m => by rcases List.mem_cons.mp m with z | z; exact hi z.symm; exact h1 z, h2⟩
    · exact .inr ⟨j + 1, by simpa using h1, by simpa using h2⟩
theorem putBack_len : ∀ {os : List Opd} {cs : List Cell} {δ : DS}, (putBack os cs δ).length = δ.length
  | [], cs, δ => by simp [putBack]
  | .d _ :: os, [], δ => by rfl
  | .s _ :: os, [], δ => by rfl
  | .d _ :: os, c :: cs, δ => by simp [putBack, putBack_len]
  | .s _ :: os, c :: cs, δ => by simp [putBack, putBack_len]
theorem call_back {G' H' : Hp} {vs : List V} {os : List Opd} {cs : List Cell} (R : Rel K B G δ σ H) (ok : OpdsOk K G σ vs os) (nd : (slotsOf os).Nodup) (s : Same G G') (R' : Rel K (hold B H δ (slotsOf os)) G' cs (vs.map some) H') : Rel K B G' (putBack os cs δ) σ H' := by
  have hlen : os.length = cs.length := by rw [← opds_len ok, ← R'.len, List.length_map]
  have sb : Same B H' := fun a o e => by
    by_cases h : ∃ i c, δ[i]? = some c ∧ a ∈ c.fp ∧ i ∉ slotsOf os
    · obtain ⟨i, c, h1, h2, _⟩ := h
      rw [(R.fr i c a h1 h2).2] at e; cases e
    · exact R'.sb a o (by rw [hold_out h]; exact e)
  have keep : ∀ {i : Nat} {c : Cell} {a : Addr}, i ∉ slotsOf os → δ[i]? = some c → a ∈ c.fp → H' a = H a ∧ hold B H δ (slotsOf os) a = H a := fun {i c a} h1 h2 h3 => by
    have e := hold_in (B := B) (H := H) ⟨i, c, h2, h3, h1⟩
    obtain ⟨o, eo⟩ := R.tr h2 h3
    exact ⟨by rw [R'.sb a o (by rw [e]; exact eo), eo], e⟩
  refine ⟨by rw [putBack_len]; exact R.len, R'.sg, sb, fun a => ?_, fun i c o e1 e2 => ?_, fun i k c c' a e1 e2 m1 m2 => ?_, fun i c a e m => ?_, R'.tt⟩
  · by_cases h : ∃ i c, δ[i]? = some c ∧ a ∈ c.fp ∧ i ∉ slotsOf os
    · obtain ⟨i, c, h1, h2, _⟩ := h
      exact .inr (R.fr i c a h1 h2).2
    · have := R'.dj a
      rw [hold_out h] at this; exact this
  · rcases putBack_at hlen nd e1 with ⟨h1, h2⟩ | ⟨j, h1, h2⟩
    · exact (R.ok i c o h2 e2).stay s fun a m => (keep h1 h2 m).1
    · obtain ⟨v, h3, h4⟩ := opds_at ok h1
      have h5 : σ[i]? = some (some v) := h4
      rw [h5] at e2; cases e2
      exact R'.ok j c (some v) h2 (by rw [List.getElem?_map, h3]; rfl)
  · rcases putBack_at hlen nd e1 with ⟨h1, h2⟩ | ⟨j, h1, h2⟩
    · rcases putBack_at hlen nd e2 with ⟨h3, h4⟩ | ⟨j', h3, h4⟩
      · exact R.ap i k c c' a h2 h4 m1 m2
      · obtain ⟨_, f2⟩ := R'.fr j' c' a h4 m2
        rw [(keep h1 h2 m1).2] at f2
        obtain ⟨o, eo⟩ := R.tr h2 m1
        rw [eo] at f2; cases f2
    · rcases putBack_at hlen nd e2 with ⟨h3, h4⟩ | ⟨j', h3, h4⟩
      · obtain ⟨_, f2⟩ := R'.fr j c a h2 m1
        rw [(keep h3 h4 m2).2] at f2
        obtain ⟨o, eo⟩ := R.tr h4 m2
        rw [eo] at f2; cases f2
      · have := R'.ap j j' c c' a h2 h4 m1 m2
        subst this
        rw [h1] at h3; cases h3; rfl
  · rcases putBack_at hlen nd e with ⟨h1, h2⟩ | ⟨j, h1, h2⟩
    · obtain ⟨f1, f2⟩ := R.fr i c a h2 m
      refine ⟨?_, f2⟩
      rcases R'.dj a with z | z
      · exact z
      · rw [(keep h1 h2 m).2] at z
        obtain ⟨o, eo⟩ := R.tr h2 m
        rw [eo] at z; cases z
    · obtain ⟨f1, f2⟩ := R'.fr j c a h2 m
      refine ⟨f1, ?_⟩
      by_cases h : ∃ i c, δ[i]? = some c ∧ a ∈ c.fp ∧ i ∉ slotsOf os
      · obtain ⟨i', c', h3, h4, _⟩ := h
        exact (R.fr i' c' a h3 h4).2
      · rw [hold_out h] at f2; exact f2
end
section
variable {X : Cx} {CX : CXT} {k : Nat} {f : Addr} {fd : FuncData} {ps : List Str} {x : Str} {p pos : Pos} {e : Expr} {es : List Expr}
theorem run_fnG {sp : Sp} {E : XK} {pins : List (Addr × Obj)} {σ : L2.St} {H : Hp} {s : Shared} {Q : VK} {us : List Value} {vs : List V} (F : FnG X.prog X.w X.K X.mg X.base CX k f fd ps sp) (hr : RoomG k X.A) (hb : Binds X.K fd ps []) (hx : Passes CX X E)
    (I : Inv X pins σ H s) (r : Vals vs us) (h : sp vs H Q E) : wpAny (model X.prog X.w) X.A (call (.ref f) us) (EP X pins σ Q) X.xe s := by
  have many : (us ++ []).length = ps.length := (List.append_nil us).symm ▸ r.length.symm.trans (F.len _ _ _ _ h)
  have bound : BindsTo s fd ⟨us, []⟩ (ps.zip us) := by have := hb s us I.kIn many; rwa [List.append_nil] at this
  refine wpAny_call (codeAny_mono (F.run X.A X.stack s H ⟨us, []⟩ us vs Q E hr I.env0 bound r h) ?_)
  rintro (err | _ | _ | _ | u) z back <;> first | exact hx pins σ H s err z I back | exact False.elim back | exact I.after back
theorem pe_callG {sp : Sp} {E : XK} {t : TA} (F : FnG X.prog X.w X.K X.mg X.base CX k f fd ps sp) (hr : RoomG k X.A) (hg : Gl X x) (hm : X.mg x = some (.ref f)) (hk : PySem.W.keepIn X.K (.ref f) = true) (hb : Binds X.K fd ps []) (hx : Passes CX X E)
    (ha : PA X (e :: es) t) (hdb : (x == ("__debug__" : Str)) = false := by decide) (he : starEach (e :: es) X.env = (false, eval e X.env) :: starEach es X.env := by rfl) (hpl : (backTo pos (starEach es X.env)).any (·.1) = false := by rfl) : PE X (.Call (.Name x p) (e :: es) [] pos) (tCall sp [] E t) := by
  exact ⟨fun pins s σ H Q I h => wpAny_Call_Name_kw (ld_glob I hg hm (PySem.W.callWith_K (h₀ := X.base) I.ok.mod.kin hk (wpAny_mono (ha.run pos pins s σ H _ I h)
    (fun us z ⟨vs, H1, I1, r, q⟩ => ⟨I1.kIn, run_fnG F hr hb hx I1 r (by have q : sp (vs ++ []) H1 Q E := q; rwa [List.append_nil] at q)⟩) fun _ _ z => z) he hpl) hdb)⟩
theorem je_call {m : List Bool} {sp : DSp} {w : DA} (F : FnG X.prog X.w X.K X.mg X.base CX0 k f fd ps (liftSp X.K sp)) (hr : RoomG k X.A) (hg : Gl X x) (hm : X.mg x = some (.ref f)) (hk : PySem.W.keepIn X.K (.ref f) = true) (hb : Binds X.K fd ps [])
    (ha : JA X (e :: es) w) (hdb : (x == ("__debug__" : Str)) = false := by decide) (he : starEach (e :: es) X.env = (false, eval e X.env) :: starEach es X.env := by rfl) (hpl : (backTo pos (starEach es X.env)).any (·.1) = false := by rfl) : JE X (.Call (.Name x p) (e :: es) [] pos) (wCall m sp w) :=
  pe_le (pe_callG (E := E0) F hr hg hm hk hb pass0 ha hdb he hpl) fun pins s σ H Q I ⟨B, G, δ, R, rel, hw, k⟩ => ⟨B, G, δ, _, rel, hw, fun vs H1 G1 os δ1 r1 s1 rel1 ok1 => by
    obtain ⟨G2, δ2, os', ⟨nd, q⟩, s2, rel2, ok2⟩ := lkM_ok rel1 ok1 r1
    rw [List.append_nil]
    exact ⟨_, G2, _, _, call_rel rel2 ok2 nd, q, fun v H' G' z cs r s3 rel3 dn => k v H' G' _ _ r (s1.trans (s2.trans s3)) (call_back rel2 ok2 nd s3 rel3) dn⟩⟩
end
end DL
set_option Elab.async false
set_option linter.all false
set_option maxRecDepth 100000
set_option maxHeartbeats 4000000
namespace DL
open PySem PySem.Spec PyProof.Rows L2
variable [Tb]

inductive Src where
  | l (a : Addr)
  | t (a : Addr)
def Src.ad : Src → Addr
  | .l a => a
  | .t a => a
def Src.is (h : Heap) (its : Array Value) : Src → Prop
  | .l a => h.IsList a its
  | .t a => h.IsTuple a its
def Src.iter (h : Heap) (it : Addr) (n : Nat) : Src → Prop
  | .l a => h.IsListIter it a n
  | .t a => h.IsTupleIter it a n
def Src.ob : Src → Obj
  | .l a => { cls := .type "list_iterator", data := .fields #[.ref a, .int 0 0] }
  | .t a => { cls := .type "tuple_iterator", data := .fields #[.ref a, .int 0 0] }
def SrcOk (K : PySem.W.Frag) (H : Hp) (S : Src) (xs : List V) : Prop := match S with
  | .l a => SqL K H a xs
  | .t a => SqT K H a xs
theorem Src.draws {prog : Program} {w : World} {A : Around} (hh : A.handled = none) (S : Src) (it : Addr) (hne : S.ad ≠ it) (items : Array Value) :
    Draws prog w A it [it, S.ad] items.size (fun i v => items[i]? = some v) (fun i h => S.iter h it i ∧ S.is h items) := by
  cases S with
  | l a => exact Draws.list hh it a hne items
  | t a => exact Draws.tuple hh it a hne items
theorem Src.begins (S : Src) (items : Array Value) : Begins (.ref S.ad) S.ob fun h => S.is h items := by
  cases S with
  | l a => exact begins_list a items
  | t a => exact begins_tuple a items
theorem Src.lt {S : Src} {h : Heap} {its : Array Value} (x : S.is h its) : S.ad < h.objs.size := by
  cases S with
  | l a => obtain ⟨o, e, _⟩ := x; exact Heap.lt_size e
  | t a => obtain ⟨o, e, _⟩ := x; exact Heap.lt_size e
theorem Src.iter_keep {S : Src} {h h' : Heap} {it : Addr} {n : Nat} (x : S.iter h it n) (k : ∀ o, h.get? it = some o → h'.get? it = some o) : S.iter h' it n := by
  cases S with
  | l a => exact Heap.IsListIter.at x k
  | t a => exact Heap.IsTupleIter.at x k
theorem Src.iter_of {S : Src} {h : Heap} {it : Addr} (e : h.get? it = some S.ob) : S.iter h it 0 := by
  cases S with
  | l a => exact ⟨_, e, rfl, rfl⟩
  | t a => exact ⟨_, e, rfl, rfl⟩
theorem Src.iter_obj {S : Src} {h : Heap} {it : Addr} {n : Nat} (x : S.iter h it n) : ∃ o, h.get? it = some o ∧ ∀ v, o.data ≠ .cell v := by
  cases S with
  | l a => obtain ⟨o, e, c, d⟩ := x; exact ⟨o, e, fun v z => by rw [d] at z; cases z⟩
  | t a => obtain ⟨o, e, c, d⟩ := x; exact ⟨o, e, fun v z => by rw [d] at z; cases z⟩
theorem src_get {X : Cx} {pins : List (Addr × Obj)} {σ : L2.St} {H : Hp} {s : Shared} {S : Src} {xs : List V} (I : Inv X pins σ H s) (h : SrcOk X.K H S xs) : ∃ its : List Value, Vals xs its ∧ S.is s.heap its.toArray ∧ xs.length ≤ sizeLine := by
  cases S with
  | l a => obtain ⟨its, rv, p, hz⟩ := I.list h; exact ⟨its, rv, p.isList, hz⟩
  | t a => obtain ⟨its, rv, p, hz⟩ := I.tuple h; exact ⟨its, rv, p, hz⟩
theorem src_inj {X : Cx} {pins : List (Addr × Obj)} {σ : L2.St} {H : Hp} {s : Shared} {S : Src} {xs ys : List V} (I : Inv X pins σ H s) (h : SrcOk X.K H S xs) (h' : SrcOk X.K H S ys) : xs = ys := by
  cases S with
  | l a => exact I.list_inj h h'
  | t a => exact I.tuple_inj h h'
/-- a footprint's objects are there, and none is a cell -/
def Sits (ch : List Addr) (h : Heap) : Prop := ∀ b ∈ ch, ∃ o, h.get? b = some o ∧ ∀ v, o.data ≠ .cell v
theorem Sits.nil {h : Heap} : Sits [] h := fun _ m => nomatch m
theorem Sits.put {b : Addr} {ch : List Addr} {h : Heap} {o : Obj} (e : h.get? b = some o) (n : ∀ v, o.data ≠ .cell v) (t : Sits ch h) : Sits (b :: ch) h :=
  List.forall_mem_cons.mpr ⟨⟨o, e, n⟩, t⟩
theorem Sits.src {S : Src} {b : Addr} {ch : List Addr} {h : Heap} {n : Nat} (e : S.iter h b n) (t : Sits ch h) : Sits (b :: ch) h :=
  List.forall_mem_cons.mpr ⟨Src.iter_obj e, t⟩
/-- a new tuple lies on top, and of what was there only the footprint has turned -/
theorem row_laid {X : Cx} {pins : List (Addr × Obj)} {σ : L2.St} {H : Hp} {s : Shared} {ch : List Addr} {h' : Heap} {tk : Nat} {row : List V} {us : List Value}
    (I : Inv X pins σ H s) (own : ∀ b ∈ ch, FpOk X pins H b) (sit : Sits ch s.heap) (same : ∀ b o, b ∉ ch → s.heap.get? b = some o → h'.get? b = some o)
    (short : row.length ≤ sizeLine) (r : Vals row us) (top : h'.get? s.heap.objs.size = some { cls := .type "tuple", data := .seq us.toArray }) :
    Inv X pins σ (upd H s.heap.objs.size (.tup row)) { s with heap := h', toks := tk } ∧ H s.heap.objs.size = none ∧ ∀ b ∈ ch, upd H s.heap.objs.size (.tup row) b = none := by
  refine ⟨I.turnedNew same own (Nat.le_refl _) ⟨short, us, r, _, top, rfl, _, rfl⟩, I.hok.fresh (Nat.le_refl _), fun b m => ?_⟩
  obtain ⟨o, at_b, _⟩ := sit b m
  exact (upd_ne (Nat.ne_of_lt (Heap.lt_size at_b))).trans (own b m).1
/-- what lies above the heap's end is nobody's -/
theorem all_new {X : Cx} {pins : List (Addr × Obj)} {σ : L2.St} {H : Hp} {s : Shared} (I : Inv X pins σ H s) (ks : List Nat) : ∀ b ∈ ks.map (s.heap.objs.size + ·), FpOk X pins H b := fun b m => by
  obtain ⟨k, _, rfl⟩ := List.mem_map.mp m
  exact I.fpOk (Nat.le_add_right _ k) (I.hok.fresh (Nat.le_add_right _ k))
/-- a row's item of a source: its value, and where it stands -/
theorem src_item {X : Cx} {pins : List (Addr × Obj)} {σ : L2.St} {H : Hp} {s : Shared} {S : Src} {xs : List V} {i : Nat} {x : V} (I : Inv X pins σ H s) (h : SrcOk X.K H S xs) (e : xs[i]? = some x) :
    ∃ (its : Array Value) (u : Value), S.is s.heap its ∧ i < its.size ∧ (∀ y, its[i]? = some y → y = u) ∧ RelV x u ∧ ∀ ys, SrcOk X.K H S ys → ys[i]? = some x := by
  obtain ⟨its, rv, at_s, _⟩ := src_get I h
  obtain ⟨u, eu, ru⟩ := rv.get e
  refine ⟨its.toArray, u, at_s, ?_, fun y ey => ?_, ru, fun ys h2 => src_inj I h2 h ▸ e⟩
  · rw [List.size_toArray]; exact (List.getElem?_eq_some_iff.mp eu).1
  · rw [List.getElem?_toArray, eu] at ey; exact (Option.some.inj ey).symm
theorem src_all {X : Cx} {pins : List (Addr × Obj)} {σ : L2.St} {H : Hp} {s : Shared} {S : Src} {xs : List V} (I : Inv X pins σ H s) (h : SrcOk X.K H S xs) :
    ∃ its : Array Value, S.is s.heap its ∧ its.size = xs.length := by
  obtain ⟨its, rv, at_s, _⟩ := src_get I h
  exact ⟨its.toArray, at_s, by rw [List.size_toArray]; exact rv.length.symm⟩
/-- a built-in class is called by its name, on what the operands yield -/
theorem pi_class {X : Cx} {tg e : Expr} {es : List Expr} {ta : TA} {p pos : Pos} {x : Str} {T : String} {W : List V → Hp → (It → Hp → Prop) → Prop} (hg : Gl X x) (hm : X.mg x = none) (hb : bootBuiltins x = some (.type T)) (ha : PA X (e :: es) ta)
    (hs : starEach (e :: es) X.env = (false, eval e X.env) :: starEach es X.env) (hpl : (backTo pos (starEach es X.env)).any (·.1) = false) (hx : x ≠ "__name__") (hd : (x == ("__debug__" : Str)) = false)
    (k : ∀ (pins : List (Addr × Obj)) (s : Shared) (σ : L2.St) (H : Hp) (R : It → Hp → Prop) (vs : List V) (us : List Value), Inv X pins σ H s → Vals vs us → W vs H R →
      wpAny (model X.prog X.w) X.A (call (.type T) us) (fun v s1 => wpAny (model X.prog X.w) X.A (pyIter v) (PIE X pins σ tg R) X.xe s1) X.xe s) :
    PI X tg (.Call (.Name x p) (e :: es) [] pos) (fun σ H R => ta σ H fun vs H1 => W vs H1 R) where
  run pins s σ H R I h := Call_ (ld_blt I hg hm hb (PyProof.Rows.callWith_type1 (wpAny_mono (ha.run pos pins s σ H _ I h)
    (fun us _ ⟨vs, H1, I1, r, q⟩ => k pins _ σ H1 R vs us I1 r q) fun _ _ z => z) hs hpl) hx hd)

def Ien (K : PySem.W.Frag) (S : Src) : It :=
  ⟨fun i H => ∃ xs x, SrcOk K H S xs ∧ xs[i]? = some x,
   fun i H v H' => ∃ (p : Addr) (x : V), v = .ref p ∧ H p = none ∧ H' = upd H p (.tup [.int (i : Nat), x]) ∧ ∀ xs, SrcOk K H S xs → xs[i]? = some x,
   fun i H => ∃ xs, SrcOk K H S xs ∧ i = xs.length⟩
theorem turn_en {P : Program} {w : World} {K : PySem.W.Frag} {elts : List Expr} {kk : Nat} {tpos : Pos} {S : Src} {e it : Addr} (n1 : S.ad ≠ it) (n2 : e ≠ it) (n3 : e ≠ S.ad) :
    Turn P w K (.Tuple elts kk tpos) (Ien K S) [e, it] e (fun i h => (∃ old, IsEnum h e it ((i : Nat) : Int) old) ∧ S.iter h it i) := by
  have sit : ∀ {i : Nat} {h : Heap} {c : Int} {old : Value}, IsEnum h e it c old → S.iter h it i → Sits [e, it] h := fun he h1 => .put he nofun (.src h1 .nil)
  refine ⟨List.mem_cons_self, fun i h ⟨⟨_, he⟩, h1⟩ => sit he h1, ?_, ?_, ?_, fun _ _ _ _ _ ⟨⟨_, he⟩, _⟩ => wpAny_pyIter_enum he⟩
  · rintro i h h' ⟨⟨old, he⟩, h1⟩ k
    exact ⟨⟨old, k e (by simp) _ he⟩, Src.iter_keep h1 (k it (by simp))⟩
  · rintro X rfl rfl rfl hc i pins s σ H E I own ⟨⟨old, he⟩, h1⟩ ⟨xs, x, ox, ex⟩
    obtain ⟨as, u1, at1, l1, val1, r1, same1⟩ := src_item I ox ex
    refine wpAny_pyNext_enum_itemD (Src.draws (A := X.A.in1) (I.ok.hd hc) S it n1 as) he ⟨h1, at1⟩ l1 n2 (by simp [n2, n3]) fun y g tk ey go g1 top _ kept => ⟨_, rfl, ?_⟩
    cases val1 _ ey
    refine wpAny_letOwnedTupleGo_enum (s := { s with heap := g, toks := tk + 1 }) go fun g' ge' but => ?_
    have old' : e ≠ s.heap.objs.size := Nat.ne_of_lt (Heap.lt_size he)
    obtain ⟨I', new, none'⟩ := row_laid (h' := g') (tk := tk + 1) (row := [.int (i : Nat), x]) I own (sit he h1)
      (fun c o m q => by
        simp only [List.mem_cons, List.not_mem_nil, or_false, not_or] at m
        exact (but.2 c m.1).trans (kept c o m.1 m.2 q))
      (show 2 ≤ sizeLine by decide) (.cons ⟨tk, rfl⟩ (.cons r1 .nil)) ((but.2 _ old'.symm).trans top)
    exact ⟨.ref s.heap.objs.size, _, I', rfl, ⟨_, x, rfl, new, rfl, same1⟩, ⟨⟨_, by rw [Int.natCast_succ]; exact ge'⟩, Src.iter_keep g1.1 fun o q => (but.2 it n2.symm).trans q⟩, none'⟩
  · rintro X rfl rfl rfl hc i pins s σ H E I own ⟨⟨old, he⟩, h1⟩ ⟨xs, ox, rfl⟩
    obtain ⟨as, at1, s1⟩ := src_all I ox
    rw [← s1] at h1
    refine wpAny_pyNext_enum_endD (Src.draws (A := X.A.in1) (I.ok.hd hc) S it n1 as) he ⟨h1, at1⟩ fun g kept => ⟨rfl, ?_⟩
    exact I.turnedL (t' := s.toks) (fun c o m => kept c o fun z => m (z ▸ List.mem_cons_of_mem _ List.mem_cons_self)) own
/-- enumerate of one thing: the class's own make, from any thing that can be walked along -/
theorem enum_made {v : Value} {o : Obj} {Q : Heap → Prop} (B : Begins v o Q) :
    Meets (Builtin.«enumerate.__new__» ⟨[.type "enumerate", v], []⟩) (fun _ R s => Q s.heap ∧
      R (.ok (.ret (.ref (s.heap.push o).objs.size))) { s with heap := (s.heap.push o).push { cls := .type "enumerate", data := .fields #[.none, .bool false, .ref s.heap.objs.size, rawInt 0, .none, .none] } }) := by
  refine .of_wp fun prog w A R => ?_
  rintro ⟨hp, gs, dr, tk, os⟩ ⟨at_v, h⟩
  have begun {A' : Around} {E G : Value → Shared → Prop} : G (.ref hp.objs.size) ⟨hp.push o, gs, dr, tk, os⟩ → wpAny (model prog w) A' (pyIter v) G E ⟨hp, gs, dr, tk, os⟩ := B.iter prog w _ _ ⟨hp, gs, dr, tk, os⟩ _ at_v
  have sub := sub_enumerate
  wp_walk using begun
  refine wpAny_stack_any fun _ => wpAny_pure ?_
  split
  next c _ _ _ _ _ => cases (c == Value.type "enumerate") <;> (wp_walk using begun; exact ⟨_, rfl, h⟩)
  next => wp_walk using begun; exact ⟨_, rfl, h⟩
theorem enum_starts {prog : Program} {w : World} {A : Around} {E : Value → Shared → Prop} {s : Shared} {v : Value} {o : Obj} {P : Heap → Prop} {Q : Value → Shared → Prop} (B : Begins v o P) (at_v : P s.heap)
    (k : ∀ h', IsEnum h' (s.heap.objs.size + 1) s.heap.objs.size 0 .none → h'.get? s.heap.objs.size = some o → (∀ b u, s.heap.get? b = some u → h'.get? b = some u) → Q (.ref (s.heap.objs.size + 1)) { s with heap := h' }) :
    wpAny (model prog w) A (call (.type "enumerate") [v]) Q E s := by
  refine callType_new F.called_enumerate (by decide) (F.typeCall_enumerate_1 _) (F.newCall_enumerate_1 _) (F.args_object_init_2 · _) F.entry_enumerate_new (enum_made B) ⟨at_v, ?_⟩
  have up : (s.heap.push o).objs.size = s.heap.objs.size + 1 := Heap.size_push _ _
  have at_e := Heap.get?_push_size (s.heap.push o) (o := { cls := .type "enumerate", data := .fields #[.none, .bool false, .ref s.heap.objs.size, rawInt 0, .none, .none] }) rfl
  rw [up] at at_e
  show _ ∧ _
  rw [up]
  exact ⟨⟨_, at_e, rfl⟩, k _ at_e (Heap.get?_push_of_some _ (Heap.get?_push_size _ B.free)) fun b u q => Heap.get?_push_of_some _ (Heap.get?_push_of_some _ q)⟩
def iEn (K : PySem.W.Frag) (ta : TA) : TI := fun σ H R => ta σ H fun vs H1 => ∃ S xs, vs = [.ref S.ad] ∧ SrcOk K H1 S xs ∧ (xs.length ≤ sizeLine → R (Ien K S) H1)
theorem pi_en {X : Cx} {e : Expr} {ta : TA} {p pos tpos : Pos} {elts : List Expr} {kk : Nat} (hg : Gl X "enumerate") (hm : X.mg "enumerate" = none) (ha : PA X [e] ta) (hs : starEach [e] X.env = [(false, eval e X.env)] := by rfl) :
    PI X (.Tuple elts kk tpos) (.Call (.Name "enumerate" p) [e] [] pos) (iEn X.K ta) :=
  pi_class hg hm boot_enumerate ha hs rfl (by decide) (by decide) fun pins s σ H R vs us I r ⟨S, xs, ev, ox, q⟩ => by
    subst ev
    obtain _ | ⟨rfl, _ | _⟩ := r
    obtain ⟨as, at1, _⟩ := src_all I ox
    obtain ⟨_, _, _, z1⟩ := src_get I ox
    have b1 := Src.lt at1
    exact enum_starts (Src.begins S as) at1 fun h' he h1 kept => wpAny_pyIter_enum he ⟨_, _, _, _, H, rfl, I.kept (t' := s.toks) kept,
      turn_en (Nat.ne_of_lt b1) (Nat.succ_ne_self _) (Nat.ne_of_gt (Nat.lt_succ_of_lt b1)), ⟨⟨_, he⟩, Src.iter_of h1⟩, all_new I [1, 0], q z1⟩

def seqOf : PyData → Option (List PyData)
  | .list xs => some xs
  | .tuple xs => some xs
  | _ => none
def triosD : List PyData → List PyData → List PyData → List PyData
  | x :: xs, y :: ys, z :: zs => .tuple [x, y, z] :: triosD xs ys zs
  | _, _, _ => []
def numbered : Nat → List PyData → List PyData
  | _, [] => []
  | n, x :: xs => .tuple [.int (n : Int), x] :: numbered (n + 1) xs
theorem numbered_len : ∀ n xs, (numbered n xs).length = xs.length
  | _, [] => rfl
  | n, x :: xs => by simp [numbered, numbered_len (n + 1) xs]
theorem numbered_get : ∀ (n : Nat) (xs : List PyData) (i : Nat), (numbered n xs)[i]? = (xs[i]?).map fun x => .tuple [.int ((n + i : Nat) : Int), x]
  | _, [], i => by simp [numbered]
  | n, x :: xs, 0 => by simp [numbered]
  | n, x :: xs, i + 1 => by
    simp only [numbered, List.getElem?_cons_succ, numbered_get (n + 1) xs i]
    rw [show n + 1 + i = n + (i + 1) by omega]
theorem dn_src {K : PySem.W.Frag} {G : Hp} {v : V} {d : PyData} {xs : List PyData} (dn : Dn K G v d) (h : seqOf d = some xs) : ∃ S vs, v = .ref (Src.ad S) ∧ DnL K G vs xs ∧ ∀ G2 H, Same G G2 → Same G2 H → SrcOk K H S vs := by
  cases dn with
  | lst hs t => cases h; exact ⟨.l _, _, rfl, t, fun G2 H s1 s2 => SqL.of (s2 _ _ (s1 _ _ hs))⟩
  | tup hs t => cases h; exact ⟨.t _, _, rfl, t, fun G2 H s1 s2 => sqT_mono s2 (sqT_mono s1 (SqT.of hs))⟩
  | _ => cases h
theorem pair_new {K : PySem.W.Frag} {B G H : Hp} {δ : DS} {σ : L2.St} {p : Addr} {xs : List V} {ds : List PyData} (rel : Rel K B G δ σ H) (np : H p = none) (t : DnL K G xs ds) : ∃ G3, Same G G3 ∧ Rel K B G3 δ σ (upd H p (.tup xs)) ∧ Dn K G3 (.ref p) (.tuple ds) := by
  obtain ⟨rel3, s3⟩ := rel.laid (o := .tup xs) np
  exact ⟨_, s3, rel3, Dn.tup upd_same (t.mono s3)⟩
theorem walk_en {K : PySem.W.Frag} {G : Hp} {S : Src} {vs : List V} {xs : List PyData} (h1 : ∀ G2 H, Same G G2 → Same G2 H → SrcOk K H S vs) (t1 : DnL K G vs xs) : WalkD K (Ien K S) G (numbered 0 xs) := fun B G2 δ σ H s rel => by
  have q1 := h1 G2 H s rel.sg
  have l1 := t1.len
  rw [numbered_len]
  refine ⟨fun i hi => ⟨vs, vs[i]'(by omega), q1, List.getElem?_eq_getElem (by omega)⟩, ⟨vs, q1, by omega⟩, fun i x d H' hd y => ?_⟩
  obtain ⟨p, x, rfl, np, rfl, y1⟩ := y
  rw [numbered_get] at hd
  cases e1 : xs[i]? with
  | none => rw [e1] at hd; cases hd
  | some d1 =>
    rw [e1] at hd
    cases hd
    obtain ⟨v, hv, dv⟩ := t1.get e1
    rw [y1 vs q1] at hv; cases hv
    refine pair_new rel np (.cons ?_ (.cons (dv.mono s) .nil))
    rw [Nat.zero_add]; exact Dn.int _
def iZip2 (w : DA) : DL := fun δ R => w δ fun os δ1 => lkL os δ1 fun ds δ2 => match ds with
  | [a, b] => ∃ xs ys, seqOf a = some xs ∧ seqOf b = some ys ∧ R (pairsD xs ys) δ2
  | _ => False
def iZip3 (w : DA) : DL := fun δ R => w δ fun os δ1 => lkL os δ1 fun ds δ2 => match ds with
  | [a, b, c] => ∃ xs ys zs, seqOf a = some xs ∧ seqOf b = some ys ∧ seqOf c = some zs ∧ R (triosD xs ys zs) δ2
  | _ => False
def iEnumD (w : DA) : DL := fun δ R => w δ fun os δ1 => lkL os δ1 fun ds δ2 => match ds with
  | [a] => ∃ xs, seqOf a = some xs ∧ R (numbered 0 xs) δ2
  | _ => False
theorem DnL.one {K : PySem.W.Frag} {G : Hp} {vs : List V} {d : PyData} (h : DnL K G vs [d]) : ∃ v, vs = [v] ∧ Dn K G v d := by
  cases h with | cons a b => cases b; exact ⟨_, rfl, a⟩
theorem DnL.two {K : PySem.W.Frag} {G : Hp} {vs : List V} {d e : PyData} (h : DnL K G vs [d, e]) : ∃ v u, vs = [v, u] ∧ Dn K G v d ∧ Dn K G u e := by
  cases h with | cons a b => obtain ⟨u, rfl, c⟩ := b.one; exact ⟨_, _, rfl, a, c⟩
section
variable {X : Cx} {pos tpos : Pos} {elts : List Expr} {kk : Nat} {p : Pos}
theorem ji_enum {e : Expr} {w : DA} (hg : Gl X "enumerate") (hm : X.mg "enumerate" = none) (ha : JA X [e] w) (hs : starEach [e] X.env = [(false, eval e X.env)] := by rfl) : JI X (.Tuple elts kk tpos) (.Call (.Name "enumerate" p) [e] [] pos) (iEnumD w) :=
  pi_le (pi_en hg hm ha hs) fun pins s σ H R I ⟨B, G, δ, R', rel, hw, k⟩ => ⟨B, G, δ, _, rel, hw, fun vs H1 G1 os δ1 r1 s1 rel1 ok1 => by
    obtain ⟨G2, δ2, ds, q, s2, rel2, t⟩ := lkL_ok rel1 ok1 r1
    match ds, q with
    | [a], ⟨xs, ea, q⟩ =>
      obtain ⟨v, rfl, da⟩ := t.one
      obtain ⟨S, ws, rfl, t1, k1⟩ := dn_src da ea
      refine ⟨S, ws, rfl, k1 _ _ (Same.refl _) rel2.sg, fun z1 => k _ H1 G2 _ δ2 q (s1.trans s2) rel2 (walk_en k1 t1) ?_⟩
      rw [numbered_len, ← t1.len]; exact z1⟩
end
end DL
set_option Elab.async false
set_option linter.all false
set_option maxRecDepth 100000
set_option maxHeartbeats 4000000
universe u
namespace DL
open PySem PySem.Spec PyProof.Rows L2
variable [Tb]

/-- what simp does not look into -/
inductive Stop {α : Sort u} (R : α) : Type where
  | mk
def comC (g : DTG) (t : DT) (e : DE) (vs : List Nat) (xs acc : List PyData) (δ : DS) (R : List PyData → DS → Prop) (_u : Stop R) : Prop := compIt g t e vs xs acc δ R
def forC (g : DTG) (b : DTS) (xs : List PyData) (δ : DS) (E : DEnds) (_u : Stop E) : Prop := forIt g b xs E δ
def whileC (c : DT) (b : DTS) (δ : DS) (E : DEnds) (_u : Stop E) : Prop := wWhile c b E δ
def ask (sp : DSp) (cs : List Cell) (R : PyData → List Cell → Prop) (_u : Stop R) : Prop := sp cs R
def onS {α : Type} (o : Option α) (k : α → Prop) (_u : Stop k) : Prop := match o with
  | some z => k z
  | none => False
omit [Tb] in
@[simp ↓] theorem onS_some {α : Type} (z : α) (k : α → Prop) (u : Stop k) : onS (some z) k u = k z := rfl
theorem ex_some {α : Type} (o : Option α) (k : α → Prop) : (∃ z, o = some z ∧ k z) = onS o k .mk := by
  cases o <;> simp [onS]
theorem onS_of {α : Type} {o : Option α} {z : α} {k : α → Prop} {u : Stop k} (h : o = some z) (q : k z) : onS o k u := by rw [h]; exact q
def onIs (ds : List PyData) (k : List Int → Prop) (_u : Stop k) : Prop := ∃ ns : List Int, ds = ns.map PyData.int ∧ k ns
def onBs (ds : List PyData) (k : List Bool → Prop) (_u : Stop k) : Prop := ∃ ns : List Bool, ds = ns.map PyData.bool ∧ k ns
theorem map_int_inj : ∀ {ns ms : List Int}, ns.map PyData.int = ms.map PyData.int → ns = ms
  | [], [], _ => rfl
  | [], _ :: _, h => by cases h
  | _ :: _, [], h => by cases h
  | n :: ns, m :: ms, h => by
    simp only [List.map_cons, List.cons.injEq] at h
    obtain ⟨h1, h2⟩ := h
    cases h1
    rw [map_int_inj h2]
theorem map_bool_inj : ∀ {ns ms : List Bool}, ns.map PyData.bool = ms.map PyData.bool → ns = ms
  | [], [], _ => rfl
  | [], _ :: _, h => by cases h
  | _ :: _, [], h => by cases h
  | n :: ns, m :: ms, h => by
    simp only [List.map_cons, List.cons.injEq] at h
    obtain ⟨h1, h2⟩ := h
    cases h1
    rw [map_bool_inj h2]
omit [Tb] in
@[simp ↓] theorem onIs_i (ns : List Int) (k : List Int → Prop) (u : Stop k) : onIs (ns.map PyData.int) k u = k ns :=
  propext ⟨fun ⟨ms, e, h⟩ => by rw [map_int_inj e]; exact h, fun h => ⟨ns, rfl, h⟩⟩
omit [Tb] in
@[simp ↓] theorem onIs_f {α : Type} (as : List α) (f : α → Int) (k : List Int → Prop) (u : Stop k) : onIs (as.map fun a => PyData.int (f a)) k u = k (as.map f) := by
  have := onIs_i (as.map f) k u
  rw [List.map_map] at this; exact this
omit [Tb] in
@[simp ↓] theorem onBs_i (ns : List Bool) (k : List Bool → Prop) (u : Stop k) : onBs (ns.map PyData.bool) k u = k ns :=
  propext ⟨fun ⟨ms, e, h⟩ => by rw [map_bool_inj e]; exact h, fun h => ⟨ns, rfl, h⟩⟩
omit [Tb] in
@[simp ↓] theorem onBs_f {α : Type} (as : List α) (f : α → Bool) (k : List Bool → Prop) (u : Stop k) : onBs (as.map fun a => PyData.bool (f a)) k u = k (as.map f) := by
  have := onBs_i (as.map f) k u
  rw [List.map_map] at this; exact this
def allTr (bs : List Bool) : Bool := bs.all id
def anyTr (bs : List Bool) : Bool := bs.any id
def onD (o : Option Cell) (k : PyData → Prop) (_u : Stop k) : Prop := match o with
  | some (.d z) => k z
  | _ => False
omit [Tb] in
@[simp ↓] theorem onD_d (z : PyData) (k : PyData → Prop) (u : Stop k) : onD (some (.d z)) k u = k z := rfl
theorem ex_d (o : Option Cell) (k : PyData → Prop) : (∃ z, o = some (.d z) ∧ k z) = onD o k .mk := by
  cases o with
  | none => simp [onD]
  | some c => cases c <;> simp [onD]
def asB (x : PyData) (k : Bool → Prop) (_u : Stop k) : Prop := match x with
  | .bool b => k b
  | _ => False
def asI (x : PyData) (k : Int → Prop) (_u : Stop k) : Prop := match x with
  | .int b => k b
  | _ => False
omit [Tb] in
@[simp ↓] theorem asB_b (b : Bool) (k : Bool → Prop) (u : Stop k) : asB (.bool b) k u = k b := rfl
omit [Tb] in
@[simp ↓] theorem asI_i (b : Int) (k : Int → Prop) (u : Stop k) : asI (.int b) k u = k b := rfl
theorem ex_bool (x : PyData) (k : Bool → Prop) : (∃ b, x = .bool b ∧ k b) = asB x k .mk := by
  cases x <;> simp [asB]
theorem ex_int (x : PyData) (k : Int → Prop) : (∃ b, x = .int b ∧ k b) = asI x k .mk := by
  cases x <;> simp [asI]
omit [Tb] in
@[simp ↓] theorem wOfL_ap (w : DL) (δ : DS) (R : Opd → DS → Prop) : wOfL w δ R = (w δ fun xs δ' => R (.d (.list xs)) δ') := rfl
def varC (o : Option Cell) (i : Nat) (k : Opd → Prop) (_u : Stop k) : Prop := match o with
  | some (.d x) => k (.d x)
  | some .em => False
  | none => False
  | _ => k (.s i)
omit [Tb] in
@[simp ↓] theorem varC_d (x : PyData) (i : Nat) (k : Opd → Prop) (u : Stop k) : varC (some (.d x)) i k u = k (.d x) := rfl
omit [Tb] in
@[simp ↓] theorem varC_ol (a : Addr) (xs : List PyData) (i : Nat) (k : Opd → Prop) (u : Stop k) : varC (some (.ol a xs)) i k u = k (.s i) := rfl
omit [Tb] in
@[simp ↓] theorem varC_dk (a b c : Addr) (i : Nat) (k : Opd → Prop) (u : Stop k) : varC (some (.dk a b c)) i k u = k (.s i) := rfl
omit [Tb] in
@[simp ↓] theorem varC_dx (a b c : Addr) (xs : List Int) (n : Int) (ys : List Int) (i : Nat) (k : Opd → Prop) (u : Stop k) : varC (some (.dx a b c xs n ys)) i k u = k (.s i) := rfl
omit [Tb] in
@[simp ↓] theorem varC_scr (a : Addr) (ns : List Int) (i : Nat) (k : Opd → Prop) (u : Stop k) : varC (some (.scr a ns)) i k u = k (.s i) := rfl
def useC (o : Option Cell) (k : PyData → Prop) (_u : Stop k) : Prop := match o with
  | some (.d x) => k x
  | some (.ol _ xs) => k (.list xs)
  | _ => False
omit [Tb] in
@[simp ↓] theorem useC_d (x : PyData) (k : PyData → Prop) (u : Stop k) : useC (some (.d x)) k u = k x := rfl
omit [Tb] in
@[simp ↓] theorem useC_ol (a : Addr) (xs : List PyData) (k : PyData → Prop) (u : Stop k) : useC (some (.ol a xs)) k u = k (.list xs) := rfl
def lkC (o : Option Cell) (k l : PyData → Prop) (_u : Stop k) (_v : Stop l) : Prop := match o with
  | some (.d x) => k x
  | some (.ol _ xs) => l (.list xs)
  | _ => False
omit [Tb] in
@[simp ↓] theorem lkC_d (x : PyData) (k l : PyData → Prop) (u : Stop k) (v : Stop l) : lkC (some (.d x)) k l u v = k x := rfl
omit [Tb] in
@[simp ↓] theorem lkC_ol (a : Addr) (xs : List PyData) (k l : PyData → Prop) (u : Stop k) (v : Stop l) : lkC (some (.ol a xs)) k l u v = l (.list xs) := rfl
def olC (o : Option Cell) (k : Addr → List PyData → Prop) (_u : Stop k) : Prop := match o with
  | some (.ol a xs) => k a xs
  | _ => False
omit [Tb] in
@[simp ↓] theorem olC_ol (a : Addr) (xs : List PyData) (k : Addr → List PyData → Prop) (u : Stop k) : olC (some (.ol a xs)) k u = k a xs := rfl
def asS (x : PyData) (k : List PyData → Prop) (_u : Stop k) : Prop := match x with
  | .tuple xs => k xs
  | .list xs => k xs
  | _ => False
omit [Tb] in
@[simp ↓] theorem asS_t (xs : List PyData) (k : List PyData → Prop) (u : Stop k) : asS (.tuple xs) k u = k xs := rfl
omit [Tb] in
@[simp ↓] theorem asS_l (xs : List PyData) (k : List PyData → Prop) (u : Stop k) : asS (.list xs) k u = k xs := rfl
omit [Tb] in
@[simp ↓] theorem wVar_ap (i : Nat) (δ : DS) (R : Opd → DS → Prop) : wVar i δ R = varC δ[i]? i (fun o => R o δ) .mk := rfl
omit [Tb] in
@[simp ↓] theorem wC_ap (x : PyData) (δ : DS) (R : Opd → DS → Prop) : wC x δ R = (R (.d x) δ) := rfl
omit [Tb] in
@[simp ↓] theorem wNil_ap (δ : DS) (R : List Opd → DS → Prop) : wNil  δ R = (R [] δ) := rfl
omit [Tb] in
@[simp ↓] theorem wCons_ap (w : DE) (r : DA) (δ : DS) (R : List Opd → DS → Prop) : wCons w r δ R = (w δ fun o δ1 => r δ1 fun os δ2 => R (o :: os) δ2) := rfl
omit [Tb] in
@[simp ↓] theorem wOp_ap (p : P2) (wa wb : DE) (δ : DS) (R : Opd → DS → Prop) : wOp p wa wb δ R = (wa δ fun o1 δ1 => wb δ1 fun o2 δ2 => use o1 δ2 fun x => use o2 δ2 fun y => p x y fun z => R (.d z) δ2) := rfl
omit [Tb] in
@[simp ↓] theorem wB_ap (w : DE) (δ : DS) (R : Bool → DS → Prop) : wB w δ R = (w δ fun o δ1 => use o δ1 fun x => asB x (fun b => R b δ1) .mk) := by
  unfold wB; simp only [← ex_bool, ← ex_int]
omit [Tb] in
@[simp ↓] theorem wChain_ap (p q : P2) (wa wb wc : DE) (δ : DS) (R : Opd → DS → Prop) : wChain p q wa wb wc δ R = (wa δ fun o1 δ1 => wb δ1 fun o2 δ2 => use o1 δ2 fun x => use o2 δ2 fun y => p x y fun z => asB z (fun k =>
  if k = true then wc δ2 fun o3 δ3 => use o2 δ3 fun y => use o3 δ3 fun w => q y w fun z => R (.d z) δ3 else R (.d (.bool false)) δ2) .mk) := by
  unfold wChain; simp only [← ex_bool, ← ex_int]
omit [Tb] in
@[simp ↓] theorem wAnd_ap (t u : DT) (δ : DS) (R : Bool → DS → Prop) : wAnd t u δ R = (t δ fun k δ1 => if k = true then u δ1 R else R false δ1) := rfl
omit [Tb] in
@[simp ↓] theorem wOr_ap (t u : DT) (δ : DS) (R : Bool → DS → Prop) : wOr t u δ R = (t δ fun k δ1 => if k = true then R true δ1 else u δ1 R) := rfl
omit [Tb] in
@[simp ↓] theorem wNot_ap (t : DT) (δ : DS) (R : Bool → DS → Prop) : wNot t δ R = (t δ fun k δ1 => R (!k) δ1) := rfl
omit [Tb] in
@[simp ↓] theorem wAndV_ap (w u : DE) (δ : DS) (R : Opd → DS → Prop) : wAndV w u δ R = (w δ fun o δ1 => use o δ1 fun x => asB x (fun k => if k = true then u δ1 R else R (.d (.bool false)) δ1) .mk) := by
  unfold wAndV; simp only [← ex_bool, ← ex_int]
omit [Tb] in
@[simp ↓] theorem wOrV_ap (w u : DE) (δ : DS) (R : Opd → DS → Prop) : wOrV w u δ R = (w δ fun o δ1 => use o δ1 fun x => asB x (fun k => if k = true then R (.d (.bool true)) δ1 else u δ1 R) .mk) := by
  unfold wOrV; simp only [← ex_bool, ← ex_int]
omit [Tb] in
@[simp ↓] theorem wNotV_ap (w : DE) (δ : DS) (R : Opd → DS → Prop) : wNotV w δ R = (w δ fun o δ1 => use o δ1 fun x => asB x (fun k => R (.d (.bool (!k))) δ1) .mk) := by
  unfold wNotV; simp only [← ex_bool, ← ex_int]
omit [Tb] in
@[simp ↓] theorem wIfE_ap (t : DT) (wa wb : DE) (δ : DS) (R : Opd → DS → Prop) : wIfE t wa wb δ R = (t δ fun k δ1 => if k = true then wa δ1 R else wb δ1 R) := rfl
omit [Tb] in
@[simp ↓] theorem wUn_ap (p : PyData → (PyData → Prop) → Prop) (w : DE) (δ : DS) (R : Opd → DS → Prop) : wUn p w δ R = (w δ fun o δ1 => use o δ1 fun x => p x fun z => R (.d z) δ1) := rfl
omit [Tb] in
@[simp ↓] theorem wTup_ap (w : DA) (δ : DS) (R : Opd → DS → Prop) : wTup w δ R = (w δ fun os δ1 => lkL os δ1 fun xs δ2 => xs.length ≤ 1000 ∧ R (.d (.tuple xs)) δ2) := rfl
omit [Tb] in
@[simp ↓] theorem wLst_ap (w : DA) (δ : DS) (R : List PyData → DS → Prop) : wLst w δ R = (w δ fun os δ1 => lkL os δ1 fun xs δ2 => xs.length ≤ 1000 ∧ R xs δ2) := rfl
omit [Tb] in
@[simp ↓] theorem wDic_ap (δ : DS) (R : Opd → DS → Prop) : wDic  δ R = (R (.d (.dict [])) δ) := rfl
omit [Tb] in
@[simp ↓] theorem wFn_ap (p : PN) (w : DA) (δ : DS) (R : Opd → DS → Prop) : wFn p w δ R = (w δ fun os δ1 => useL os δ1 fun xs => p xs fun z => R (.d z) δ1) := rfl
omit [Tb] in
@[simp ↓] theorem wFnL_ap (p : List PyData → (List PyData → Prop) → Prop) (w : DA) (δ : DS) (R : List PyData → DS → Prop) : wFnL p w δ R = (w δ fun os δ1 => useL os δ1 fun xs => p xs fun z => R z δ1) := rfl
omit [Tb] in
@[simp ↓] theorem wOpL_ap (p : P2L) (wa wb : DE) (δ : DS) (R : List PyData → DS → Prop) : wOpL p wa wb δ R = (wa δ fun o1 δ1 => wb δ1 fun o2 δ2 => use o1 δ2 fun x => use o2 δ2 fun y => p x y fun z => R z δ2) := rfl
omit [Tb] in
@[simp ↓] theorem wNoP_ap (δ : DS) (R : Option Int → DS → Prop) : wNoP  δ R = (R none δ) := rfl
omit [Tb] in
@[simp ↓] theorem wPart_ap (w : DE) (δ : DS) (R : Option Int → DS → Prop) : wPart w δ R = (w δ fun o δ1 => use o δ1 fun x => asI x (fun i => R (some i) δ1) .mk) := by
  unfold wPart; simp only [← ex_bool, ← ex_int]
omit [Tb] in
@[simp ↓] theorem wSl_ap (p : P3) (w : DE) (l h : DO) (δ : DS) (R : Opd → DS → Prop) : wSl p w l h δ R = (w δ fun o δ1 => l δ1 fun i δ2 => h δ2 fun j δ3 => use o δ3 fun x => p x i j fun z => R (.d z) δ3) := rfl
omit [Tb] in
@[simp ↓] theorem pSub_ap (i j : Int) (R : PyData → Prop) : pSub (.int i) (.int j) R = (R (.int (i - j))) := rfl
omit [Tb] in
@[simp ↓] theorem pMul_intiintj (i : Int) (j : Int) (R : PyData → Prop) : pMul (.int i) (.int j) R = ((CMul i j ∨ CMulW i j) ∧ R (.int (i * j))) := rfl
omit [Tb] in
@[simp ↓] theorem pMul_listxsintk (xs : List PyData) (k : Int) (R : PyData → Prop) : pMul (.list xs) (.int k) R = (0 ≤ k ∧ xs.length * k.toNat ≤ 1000000 ∧ k < 1000000 ∧ R (.list (List.replicate k.toNat xs).flatten)) := rfl
omit [Tb] in
@[simp ↓] theorem pDiv_ap (i j : Int) (R : PyData → Prop) : pDiv (.int i) (.int j) R = ((0 < j ∧ j.natAbs.log2 < 9000) ∧ R (.int (i / j))) := rfl
omit [Tb] in
@[simp ↓] theorem pMod_ap (i j : Int) (R : PyData → Prop) : pMod (.int i) (.int j) R = (0 < j ∧ R (.int (i % j))) := rfl
omit [Tb] in
@[simp ↓] theorem pPow_ap (i j : Int) (R : PyData → Prop) : pPow (.int i) (.int j) R = (CPow i j ∧ R (.int (i ^ j.toNat))) := rfl
omit [Tb] in
@[simp ↓] theorem pShl_ap (i j : Int) (R : PyData → Prop) : pShl (.int i) (.int j) R = (CPow i j ∧ R (.int (i * 2 ^ j.toNat))) := rfl
omit [Tb] in
@[simp ↓] theorem pAnd_ap (i j : Int) (R : PyData → Prop) : pAnd (.int i) (.int j) R = (R (.int (Builtin.bitAnd i j))) := rfl
omit [Tb] in
@[simp ↓] theorem pOr_ap (i j : Int) (R : PyData → Prop) : pOr (.int i) (.int j) R = (R (.int (Builtin.bitOr i j))) := rfl
omit [Tb] in
@[simp ↓] theorem pLt_intiintj (i : Int) (j : Int) (R : PyData → Prop) : pLt (.int i) (.int j) R = (R (.bool (decide (i < j)))) := rfl
omit [Tb] in
@[simp ↓] theorem pLe_ap (i j : Int) (R : PyData → Prop) : pLe (.int i) (.int j) R = (R (.bool (decide (i ≤ j)))) := rfl
omit [Tb] in
@[simp ↓] theorem pGt_ap (i j : Int) (R : PyData → Prop) : pGt (.int i) (.int j) R = (R (.bool (decide (j < i)))) := rfl
omit [Tb] in
@[simp ↓] theorem pGe_ap (i j : Int) (R : PyData → Prop) : pGe (.int i) (.int j) R = (R (.bool (decide (j ≤ i)))) := rfl
omit [Tb] in
@[simp ↓] theorem pAdd_intiintj (i : Int) (j : Int) (R : PyData → Prop) : pAdd (.int i) (.int j) R = (R (.int (i + j))) := rfl
omit [Tb] in
@[simp ↓] theorem pAdd_strastrb (a : Str) (b : Str) (R : PyData → Prop) : pAdd (.str a) (.str b) R = (a.length + b.length ≤ 1000000 ∧ R (.str (a ++ b))) := rfl
omit [Tb] in
@[simp ↓] theorem pAdd_tuplexstupleys (xs : List PyData) (ys : List PyData) (R : PyData → Prop) : pAdd (.tuple xs) (.tuple ys) R = (xs.length + ys.length ≤ 1000000 ∧ R (.tuple (xs ++ ys))) := rfl
omit [Tb] in
@[simp ↓] theorem pAdd_listxslistys (xs : List PyData) (ys : List PyData) (R : PyData → Prop) : pAdd (.list xs) (.list ys) R = (xs.length + ys.length ≤ 1000000 ∧ R (.list (xs ++ ys))) := rfl
omit [Tb] in
@[simp ↓] theorem pIs_boolaboolb (a : Bool) (b : Bool) (R : PyData → Prop) : pIs (.bool a) (.bool b) R = (R (.bool (decide (a = b)))) := rfl
omit [Tb] in
@[simp ↓] theorem pIsNot_boolaboolb (a : Bool) (b : Bool) (R : PyData → Prop) : pIsNot (.bool a) (.bool b) R = (R (.bool (!decide (a = b)))) := rfl
omit [Tb] in
@[simp ↓] theorem pIx_l (ds : List PyData) (i : Int) (R : PyData → Prop) : pIx (.list ds) (.int i) R = onS (atI ds i) R .mk := by rw [← ex_some]; rfl
omit [Tb] in
@[simp ↓] theorem pIx_t (ds : List PyData) (i : Int) (R : PyData → Prop) : pIx (.tuple ds) (.int i) R = onS (atI ds i) R .mk := by rw [← ex_some]; rfl
omit [Tb] in
@[simp ↓] theorem pIx_s (z : Str) (i : Int) (R : PyData → Prop) : pIx (.str z) (.int i) R = (z.length ≤ 1000000 ∧ onS (atI z.cps.toList i) (fun c => R (.str ⟨#[c]⟩)) .mk) := by rw [← ex_some]; rfl
omit [Tb] in
@[simp ↓] theorem mE_ap (w : DE) (δ : DS) (R : Cell → DS → Prop) : mE w δ R = (w δ fun o δ1 => lk o δ1 fun x δ2 => R (.d x) δ2) := rfl
omit [Tb] in
@[simp ↓] theorem mL_ap (w : DL) (δ : DS) (R : Cell → DS → Prop) : mL w δ R = (w δ fun xs δ1 => ∀ a, R (.ol a xs) δ1) := rfl
omit [Tb] in
@[simp ↓] theorem msNil_ap (δ : DS) (R : List Cell → DS → Prop) : msNil  δ R = (R [] δ) := rfl
omit [Tb] in
@[simp ↓] theorem msCons_ap (w : DM) (r : DMs) (δ : DS) (R : List Cell → DS → Prop) : msCons w r δ R = (w δ fun c δ1 => r δ1 fun cs δ2 => R (c :: cs) δ2) := rfl
omit [Tb] in
@[simp ↓] theorem wNext_ap (E : DEnds) (δ : DS) : wNext  E δ = (E.nx δ) := rfl
omit [Tb] in
@[simp ↓] theorem wSeq_ap (t u : DTS) (E : DEnds) (δ : DS) : wSeq t u E δ = (t { E with nx := u E } δ) := rfl
omit [Tb] in
@[simp ↓] theorem wBrk_ap (E : DEnds) (δ : DS) : wBrk  E δ = (E.bk δ) := rfl
omit [Tb] in
@[simp ↓] theorem wCnt_ap (E : DEnds) (δ : DS) : wCnt  E δ = (E.ct δ) := rfl
omit [Tb] in
@[simp ↓] theorem wRet_ap (w : DE) (E : DEnds) (δ : DS) : wRet w E δ = (w δ fun o δ1 => lk o δ1 fun x δ2 => E.rt x δ2) := rfl
omit [Tb] in
@[simp ↓] theorem wRetN_ap (E : DEnds) (δ : DS) : wRetN  E δ = (E.rt .none δ) := rfl
omit [Tb] in
@[simp ↓] theorem wIf_ap (c : DT) (t u : DTS) (E : DEnds) (δ : DS) : wIf c t u E δ = (c δ fun b δ1 => if b = true then t E δ1 else u E δ1) := rfl
omit [Tb] in
@[simp ↓] theorem wNever_ap (x0 : DEnds) (x1 : DS) : wNever  x0 x1 = (False) := rfl
omit [Tb] in
@[simp ↓] theorem wDrop_ap (w : DE) (E : DEnds) (δ : DS) : wDrop w E δ = (w δ fun _ δ1 => E.nx δ1) := rfl
omit [Tb] in
@[simp ↓] theorem wSet_ap (i : Nat) (w : DM) (E : DEnds) (δ : DS) : wSet i w E δ = (w δ fun c δ1 => E.nx (δ1.set i c)) := rfl
omit [Tb] in
@[simp ↓] theorem wPar2_ap (i j : Nat) (w : DMs) (E : DEnds) (δ : DS) : wPar2 i j w E δ = (w δ fun cs δ1 => match cs with
  | [c, d] => E.nx ((δ1.set i c).set j d)
  | _ => False) := by
  unfold wPar2
  congr 1; funext cs δ1
  match cs with
  | [] => simp
  | [c] => simp
  | [c, d] => exact propext ⟨fun ⟨c', d', e, h⟩ => by cases e; exact h, fun h => ⟨c, d, rfl, h⟩⟩
  | c :: d :: e :: r => simp
omit [Tb] in
@[simp ↓] theorem wAug_ap (i : Nat) (p : P2) (w : DE) (E : DEnds) (δ : DS) : wAug i p w E δ = onD δ[i]? (fun x => w δ fun o δ1 => use o δ1 fun y => p x y fun z => E.nx (δ1.set i (.d z))) .mk := by
  rw [← ex_d]; rfl
omit [Tb] in
@[simp ↓] theorem gN_ap (i : Nat) (x : PyData) (δ : DS) (R : DS → Prop) : gN i x δ R = (R (δ.set i (.d x))) := rfl
omit [Tb] in
@[simp ↓] theorem gsNil_ap (xs : List PyData) (δ : DS) (R : DS → Prop) : gsNil  xs δ R = (match xs with
  | [] => R δ
  | _ => False) := rfl
omit [Tb] in
@[simp ↓] theorem gsCons_ap (g : DTG) (r : DTGs) (xs : List PyData) (δ : DS) (R : DS → Prop) : gsCons g r xs δ R = (match xs with
  | x :: xs => g x δ fun δ1 => r xs δ1 R
  | [] => False) := rfl
omit [Tb] in
@[simp ↓] theorem gT_ap (r : DTGs) (x : PyData) (δ : DS) (R : DS → Prop) : gT r x δ R = (match x with
  | .tuple xs => r xs δ R
  | _ => False) := rfl
omit [Tb] in
@[simp ↓] theorem iSeq_ap (w : DE) (δ : DS) (R : List PyData → DS → Prop) : iSeq w δ R = (w δ fun o δ1 => lk o δ1 fun x δ2 => asS x (fun xs => R xs δ2) .mk) := rfl
def rng1 (xs : List PyData) (k : Int → Prop) (_u : Stop k) : Prop := ∃ j, xs = [PyData.int j] ∧ k j
def rng2 (xs : List PyData) (k : Int → Int → Prop) (_u : Stop k) : Prop := ∃ i j, xs = [PyData.int i, PyData.int j] ∧ k i j
omit [Tb] in
@[simp ↓] theorem rng1_i (j : Int) (k : Int → Prop) (u : Stop k) : rng1 [.int j] k u = k j := propext ⟨fun ⟨_, e, h⟩ => by cases e; exact h, fun h => ⟨j, rfl, h⟩⟩
omit [Tb] in
@[simp ↓] theorem rng2_i (i j : Int) (k : Int → Int → Prop) (u : Stop k) : rng2 [.int i, .int j] k u = k i j := propext ⟨fun ⟨_, _, e, h⟩ => by cases e; exact h, fun h => ⟨i, j, rfl, h⟩⟩
omit [Tb] in
@[simp ↓] theorem iRange1_ap (w : DA) (δ : DS) (R : List PyData → DS → Prop) : iRange1 w δ R = (w δ fun os δ1 => useL os δ1 fun xs => rng1 xs (fun j => -1000000 ≤ j ∧ j ≤ 1000000 ∧ R (nums 0 j.toNat) δ1) .mk) := rfl
omit [Tb] in
@[simp ↓] theorem iRange2_ap (w : DA) (δ : DS) (R : List PyData → DS → Prop) : iRange2 w δ R = (w δ fun os δ1 => useL os δ1 fun xs => rng2 xs (fun i j => (-1000000 ≤ i ∧ i ≤ 1000000 ∧ -1000000 ≤ j ∧ j ≤ 1000000) ∧ R (nums i (j - i).toNat) δ1) .mk) := rfl
omit [Tb] in
@[simp ↓] theorem wFor_ap (wi : DL) (g : DTG) (b : DTS) (E : DEnds) (δ : DS) : wFor wi g b E δ = (wi δ fun xs δ1 => forC g b xs δ1 E .mk) := rfl
omit [Tb] in
@[simp ↓] theorem wWhile_ap (c : DT) (b : DTS) (E : DEnds) (δ : DS) : wWhile c b E δ = whileC c b δ E .mk := rfl
omit [Tb] in
@[simp ↓] theorem wComp_ap (wi : DL) (g : DTG) (t : DT) (e : DE) (vs : List Nat) (δ : DS) (R : List PyData → DS → Prop) : wComp wi g t e vs δ R = (wi δ fun xs δ1 => comC g t e vs xs [] (wipeD δ1 vs) (fun ys δ2 => R ys (backD δ1 δ2 vs)) .mk) := rfl
omit [Tb] in
@[simp ↓] theorem wAppend_ap (i : Nat) (w : DE) (E : DEnds) (δ : DS) : wAppend i w E δ = (isOl δ i ∧ w δ fun o δ1 => lk o δ1 fun y δ2 => olC δ2[i]? (fun a xs => xs.length ≤ 1000000 ∧ E.nx (δ2.set i (.ol a (xs ++ [y])))) .mk) := rfl
omit [Tb] in
@[simp ↓] theorem wExtend_ap (i : Nat) (w : DE) (E : DEnds) (δ : DS) : wExtend i w E δ = (isOl δ i ∧ w δ fun o δ1 => use o δ1 fun y => ∃ ys, y = .list ys ∧ olC δ1[i]? (fun a xs => xs.length + ys.length ≤ 1000000 ∧ E.nx (δ1.set i (.ol a (xs ++ ys)))) .mk) := rfl
omit [Tb] in
@[simp ↓] theorem wPut_ap (i : Nat) (we wi : DE) (E : DEnds) (δ : DS) : wPut i we wi E δ = (we δ fun o δ1 => lk o δ1 fun y δ2 => isOl δ2 i ∧ wi δ2 fun oj δ3 => use oj δ3 fun j => asI j (fun j => olC δ3[i]? (fun a xs => ∃ n, ixN xs.length j = some n ∧ E.nx (δ3.set i (.ol a (xs.set n y)))) .mk) .mk) := by
  unfold wPut
  congr 1; funext o δ1; congr 1; funext y δ2; congr 1; congr 1; funext oj δ3; congr 1; funext j
  cases j <;> simp only [asI]
  cases δ3[i]? with
  | none => rfl
  | some c => cases c <;> rfl
omit [Tb] in
@[simp ↓] theorem wPop_ap (i : Nat) (δ : DS) (R : Opd → DS → Prop) : wPop i δ R = olC δ[i]? (fun a xs => onS xs.getLast? (fun y => R (.d y) (δ.set i (.ol a xs.dropLast))) .mk) .mk := by
  unfold wPop
  cases δ[i]? with
  | none => rfl
  | some c => cases c <;> first | rfl | exact ex_some _ _
omit [Tb] in
@[simp ↓] theorem wCall_ap (m : List Bool) (sp : DSp) (w : DA) (δ : DS) (R : Opd → DS → Prop) : wCall m sp w δ R = (w δ fun os δ1 => lkM m os δ1 fun os' δ2 => (slotsOf os').Nodup ∧ ask sp (os'.map (cellOf δ2)) (fun x cs => R (.d x) (putBack os' cs δ2)) .mk) := rfl
omit [Tb] in
@[simp ↓] theorem iZip2_ap (w : DA) (δ : DS) (R : List PyData → DS → Prop) : iZip2 w δ R = (w δ fun os δ1 => lkL os δ1 fun ds δ2 => match ds with
  | [a, b] => onS (seqOf a) (fun xs => onS (seqOf b) (fun ys => R (pairsD xs ys) δ2) .mk) .mk
  | _ => False) := by
  unfold iZip2; simp only [← ex_some, ← exists_and_left] <;> rfl
omit [Tb] in
@[simp ↓] theorem iZip3_ap (w : DA) (δ : DS) (R : List PyData → DS → Prop) : iZip3 w δ R = (w δ fun os δ1 => lkL os δ1 fun ds δ2 => match ds with
  | [a, b, c] => onS (seqOf a) (fun xs => onS (seqOf b) (fun ys => onS (seqOf c) (fun zs => R (triosD xs ys zs) δ2) .mk) .mk) .mk
  | _ => False) := by
  unfold iZip3; simp only [← ex_some, ← exists_and_left] <;> rfl
omit [Tb] in
@[simp ↓] theorem iEnumD_ap (w : DA) (δ : DS) (R : List PyData → DS → Prop) : iEnumD w δ R = (w δ fun os δ1 => lkL os δ1 fun ds δ2 => match ds with
  | [a] => onS (seqOf a) (fun xs => R (numbered 0 xs) δ2) .mk
  | _ => False) := by
  unfold iEnumD; simp only [← ex_some] <;> rfl
omit [Tb] in
@[simp ↓] theorem use_d (x : PyData) (δ : DS) (k : PyData → Prop) : use (.d x) δ k = k x := rfl
omit [Tb] in
@[simp ↓] theorem use_s (i : Nat) (δ : DS) (k : PyData → Prop) : use (.s i) δ k = useC δ[i]? k .mk := rfl
omit [Tb] in
@[simp ↓] theorem lk_d (x : PyData) (δ : DS) (k : PyData → DS → Prop) : lk (.d x) δ k = k x δ := rfl
omit [Tb] in
@[simp ↓] theorem lk_s (i : Nat) (δ : DS) (k : PyData → DS → Prop) : lk (.s i) δ k = lkC δ[i]? (fun x => k x δ) (fun x => k x (δ.set i (.d x))) .mk .mk := by
  show (match δ[i]? with
    | some (.d x) => k x δ
    | some (.ol _ xs) => k (.list xs) (δ.set i (.d (.list xs)))
    | _ => False) = _
  unfold lkC
  cases δ[i]? with
  | none => rfl
  | some c => cases c <;> rfl
omit [Tb] in
@[simp ↓] theorem useL_nil (δ : DS) (k : List PyData → Prop) : useL [] δ k = k [] := rfl
omit [Tb] in
@[simp ↓] theorem useL_cons (o : Opd) (os : List Opd) (δ : DS) (k : List PyData → Prop) : useL (o :: os) δ k = (use o δ fun x => useL os δ fun xs => k (x :: xs)) := rfl
omit [Tb] in
@[simp ↓] theorem lkL_nil (δ : DS) (k : List PyData → DS → Prop) : lkL [] δ k = k [] δ := rfl
omit [Tb] in
@[simp ↓] theorem lkL_cons (o : Opd) (os : List Opd) (δ : DS) (k : List PyData → DS → Prop) : lkL (o :: os) δ k = (lk o δ fun x δ1 => lkL os δ1 fun xs δ2 => k (x :: xs) δ2) := rfl
omit [Tb] in
@[simp ↓] theorem lkM_nil (m : List Bool) (δ : DS) (k : List Opd → DS → Prop) : lkM m [] δ k = k [] δ := by unfold lkM; rfl
omit [Tb] in
@[simp ↓] theorem lkM_t (m : List Bool) (o : Opd) (os : List Opd) (δ : DS) (k : List Opd → DS → Prop) : lkM (true :: m) (o :: os) δ k = (lkM m os δ fun r δ' => k (o :: r) δ') := by
  conv => lhs; unfold lkM
  rfl
omit [Tb] in
@[simp ↓] theorem lkM_f (m : List Bool) (o : Opd) (os : List Opd) (δ : DS) (k : List Opd → DS → Prop) : lkM (false :: m) (o :: os) δ k = (lk o δ fun x δ1 => lkM m os δ1 fun r δ' => k (.d x :: r) δ') := by
  conv => lhs; unfold lkM
  rfl
omit [Tb] in
@[simp ↓] theorem lkM_0 (o : Opd) (os : List Opd) (δ : DS) (k : List Opd → DS → Prop) : lkM [] (o :: os) δ k = (lk o δ fun x δ1 => lkM [] os δ1 fun r δ' => k (.d x :: r) δ') := by
  conv => lhs; unfold lkM
  rfl
omit [Tb] in
@[simp] theorem cellOf_d (δ : DS) (x : PyData) : cellOf δ (.d x) = .d x := rfl
omit [Tb] in
@[simp] theorem cellOf_s (δ : DS) (i : Nat) : cellOf δ (.s i) = (δ[i]?).getD .em := rfl
omit [Tb] in
@[simp ↓] theorem putBack_nil (cs : List Cell) (δ : DS) : putBack [] cs δ = δ := by cases cs <;> rfl
omit [Tb] in
@[simp ↓] theorem putBack_s (i : Nat) (os : List Opd) (c : Cell) (cs : List Cell) (δ : DS) : putBack (.s i :: os) (c :: cs) δ = putBack os cs (δ.set i c) := rfl
omit [Tb] in
@[simp ↓] theorem putBack_d (x : PyData) (os : List Opd) (c : Cell) (cs : List Cell) (δ : DS) : putBack (.d x :: os) (c :: cs) δ = putBack os cs δ := rfl
omit [Tb] in
@[simp] theorem slotsOf_nil : slotsOf [] = [] := rfl
omit [Tb] in
@[simp] theorem slotsOf_s (i : Nat) (os : List Opd) : slotsOf (.s i :: os) = i :: slotsOf os := rfl
omit [Tb] in
@[simp] theorem slotsOf_d (x : PyData) (os : List Opd) : slotsOf (.d x :: os) = slotsOf os := rfl
omit [Tb] in
@[simp ↓] theorem pNeg_i (i : Int) (R : PyData → Prop) : pNeg (.int i) R = R (.int (-i)) := rfl
omit [Tb] in
@[simp ↓] theorem pIs_n (x : PyData) (R : PyData → Prop) : pIs x .none R = R (.bool (isNone x)) := by cases x <;> rfl
omit [Tb] in
@[simp ↓] theorem pIsNot_n (x : PyData) (R : PyData → Prop) : pIsNot x .none R = R (.bool (!isNone x)) := by cases x <;> rfl
omit [Tb] in
@[simp ↓] theorem isNone_n : isNone .none = true := rfl
omit [Tb] in
@[simp ↓] theorem isNone_i (i : Int) : isNone (.int i) = false := rfl
omit [Tb] in
@[simp ↓] theorem isNone_b (i : Bool) : isNone (.bool i) = false := rfl
omit [Tb] in
@[simp ↓] theorem isNone_s (i : Str) : isNone (.str i) = false := rfl
omit [Tb] in
@[simp ↓] theorem isNone_l (i : List PyData) : isNone (.list i) = false := rfl
omit [Tb] in
@[simp ↓] theorem isNone_t (i : List PyData) : isNone (.tuple i) = false := rfl
omit [Tb] in
@[simp ↓] theorem isNone_d (i : List (PyData × PyData)) : isNone (.dict i) = false := rfl
omit [Tb] in
@[simp ↓] theorem pAddL_ll (xs ys : List PyData) (R : List PyData → Prop) : pAddL (.list xs) (.list ys) R = (xs.length + ys.length ≤ 1000000 ∧ R (xs ++ ys)) := rfl
omit [Tb] in
@[simp ↓] theorem pMulL_ll (xs : List PyData) (k : Int) (R : List PyData → Prop) : pMulL (.list xs) (.int k) R = (0 ≤ k ∧ xs.length * k.toNat ≤ 1000000 ∧ k < 1000000 ∧ R (List.replicate k.toNat xs).flatten) := rfl
omit [Tb] in
@[simp ↓] theorem pIn_l (x : PyData) (ds : List PyData) (R : PyData → Prop) : pIn x (.list ds) R = (SeqAt.shaped x = true ∧ SeqAt.shaped (.list ds) = true ∧ R (.bool (ds.any fun z => PyData.eqv z x))) := rfl
omit [Tb] in
@[simp ↓] theorem pIn_t (x : PyData) (ds : List PyData) (R : PyData → Prop) : pIn x (.tuple ds) R = (SeqAt.shaped x = true ∧ SeqAt.shaped (.tuple ds) = true ∧ R (.bool (ds.any fun z => PyData.eqv z x))) := rfl
omit [Tb] in
@[simp ↓] theorem pIn_s (x : PyData) (z : Str) (R : PyData → Prop) : pIn x (.str z) R = (∃ c : Nat, x = .str ⟨#[c]⟩ ∧ R (.bool (decide (c ∈ z.cps.toList)))) := rfl
omit [Tb] in
@[simp ↓] theorem pNotIn_l (x : PyData) (ds : List PyData) (R : PyData → Prop) : pNotIn x (.list ds) R = (SeqAt.shaped x = true ∧ SeqAt.shaped (.list ds) = true ∧ R (.bool (!ds.any fun z => PyData.eqv z x))) := rfl
omit [Tb] in
@[simp ↓] theorem pNotIn_t (x : PyData) (ds : List PyData) (R : PyData → Prop) : pNotIn x (.tuple ds) R = (SeqAt.shaped x = true ∧ SeqAt.shaped (.tuple ds) = true ∧ R (.bool (!ds.any fun z => PyData.eqv z x))) := rfl
omit [Tb] in
@[simp ↓] theorem pNotIn_s (x : PyData) (z : Str) (R : PyData → Prop) : pNotIn x (.str z) R = (∃ c : Nat, x = .str ⟨#[c]⟩ ∧ R (.bool (!decide (c ∈ z.cps.toList)))) := rfl
omit [Tb] in
@[simp ↓] theorem pSl_l (ds : List PyData) (lo hi : Option Int) (R : PyData → Prop) : pSl (.list ds) lo hi R = R (.list (cutD ds lo hi)) := rfl
omit [Tb] in
@[simp ↓] theorem pSl_t (ds : List PyData) (lo hi : Option Int) (R : PyData → Prop) : pSl (.tuple ds) lo hi R = R (.tuple (cutD ds lo hi)) := rfl
omit [Tb] in
@[simp ↓] theorem pSl_s (z : Str) (lo hi : Option Int) (R : PyData → Prop) : pSl (.str z) lo hi R = (z.length ≤ 1000000 ∧ R (.str (cutS z lo hi))) := rfl
omit [Tb] in
@[simp ↓] theorem pLen_l (ds : List PyData) (R : PyData → Prop) : pLen [.list ds] R = R (.int ds.length) := rfl
omit [Tb] in
@[simp ↓] theorem pLen_t (ds : List PyData) (R : PyData → Prop) : pLen [.tuple ds] R = R (.int ds.length) := rfl
omit [Tb] in
@[simp ↓] theorem pLen_s (z : Str) (R : PyData → Prop) : pLen [.str z] R = (z.length ≤ 1000000 ∧ R (.int z.length)) := rfl
omit [Tb] in
@[simp ↓] theorem pTupOf_l (ds : List PyData) (R : PyData → Prop) : pTupOf [.list ds] R = R (.tuple ds) := rfl
omit [Tb] in
@[simp ↓] theorem pTupOf_t (ds : List PyData) (R : PyData → Prop) : pTupOf [.tuple ds] R = R (.tuple ds) := rfl
omit [Tb] in
@[simp ↓] theorem pLstOf_l (ds : List PyData) (R : List PyData → Prop) : pLstOf [.list ds] R = R ds := rfl
omit [Tb] in
@[simp ↓] theorem pLstOf_t (ds : List PyData) (R : List PyData → Prop) : pLstOf [.tuple ds] R = R ds := rfl
omit [Tb] in
@[simp ↓] theorem pInt_i (i : Int) (R : PyData → Prop) : pInt [.int i] R = R (.int i) := rfl
omit [Tb] in
@[simp ↓] theorem pInt_b (b : Bool) (R : PyData → Prop) : pInt [.bool b] R = R (.int (if b then 1 else 0)) := rfl
omit [Tb] in
@[simp ↓] theorem pInt_s (z : Str) (R : PyData → Prop) : pInt [.str z] R = (∃ n, PySem.intText? z = some n ∧ z.length ≤ 640 ∧ R (.int n)) := rfl
omit [Tb] in
@[simp ↓] theorem pBool_i (i : Int) (R : PyData → Prop) : pBool [.int i] R = R (.bool (i != 0)) := rfl
omit [Tb] in
@[simp ↓] theorem pBool_b (b : Bool) (R : PyData → Prop) : pBool [.bool b] R = R (.bool b) := rfl
omit [Tb] in
@[simp ↓] theorem pStr_i (i : Int) (R : PyData → Prop) : pStr [.int i] R = (i.natAbs.log2 < 1920 ∧ R (.str (toString i))) := rfl
omit [Tb] in
@[simp ↓] theorem pStr_s (z : Str) (R : PyData → Prop) : pStr [.str z] R = R (.str z) := rfl
omit [Tb] in
@[simp ↓] theorem pAbs_i (i : Int) (R : PyData → Prop) : pAbs [.int i] R = R (.int (if i < 0 then -i else i)) := rfl
omit [Tb] in
@[simp ↓] theorem pMax2_i (i j : Int) (R : PyData → Prop) : pMax2 [.int i, .int j] R = R (.int (if j > i then j else i)) := rfl
omit [Tb] in
@[simp ↓] theorem pMin2_i (i j : Int) (R : PyData → Prop) : pMin2 [.int i, .int j] R = R (.int (if j < i then j else i)) := rfl
omit [Tb] in
@[simp ↓] theorem pSum_l (ds : List PyData) (R : PyData → Prop) : pSum [.list ds] R = onIs ds (fun ns => R (.int ns.sum)) .mk := rfl
omit [Tb] in
@[simp ↓] theorem pMax_l (ds : List PyData) (R : PyData → Prop) : pMax [.list ds] R = onIs ds (fun ns => 0 < ns.length ∧ ∀ m, m ∈ ns → (∀ y ∈ ns, y ≤ m) → R (.int m)) .mk := rfl
omit [Tb] in
@[simp ↓] theorem pMin_l (ds : List PyData) (R : PyData → Prop) : pMin [.list ds] R = onIs ds (fun ns => 0 < ns.length ∧ ∀ m, m ∈ ns → (∀ y ∈ ns, m ≤ y) → R (.int m)) .mk := rfl
omit [Tb] in
@[simp ↓] theorem pAll_l (ds : List PyData) (R : PyData → Prop) : pAll [.list ds] R = onBs ds (fun bs => R (.bool (allTr bs))) .mk := rfl
omit [Tb] in
@[simp ↓] theorem pAny_l (ds : List PyData) (R : PyData → Prop) : pAny [.list ds] R = onBs ds (fun bs => R (.bool (anyTr bs))) .mk := rfl
omit [Tb] in
@[simp ↓] theorem pRepr_x (x : PyData) (R : PyData → Prop) : pRepr [x] R = (x.showable = true ∧ x.hasDict = false ∧ x.depth ≤ 60 ∧ x.shown.length ≤ 16000000 ∧ R (.str x.shown)) := rfl
omit [Tb] in
@[simp ↓] theorem wIsi_ap (T : String) (w : DE) (δ : DS) (R : Opd → DS → Prop) : wIsi T w δ R = (w δ fun o δ1 => use o δ1 fun x => R (.d (.bool (isTy T x))) δ1) := rfl
omit [Tb] in
@[simp ↓] theorem wRevL_ap (w : DE) (δ : DS) (R : Opd → DS → Prop) : wRevL w δ R = (w δ fun o δ1 => use o δ1 fun x => ∃ ds, x = .list ds ∧ R (.d (.list ds.reverse)) δ1) := rfl
omit [Tb] in
@[simp] theorem tT_ap (δ : DS) (R : Bool → DS → Prop) : tT δ R = R true δ := rfl
omit [Tb] in
@[simp ↓] theorem wipeD_nil (δ : DS) : wipeD δ [] = δ := rfl
omit [Tb] in
@[simp ↓] theorem wipeD_cons (δ : DS) (v : Nat) (vs : List Nat) : wipeD δ (v :: vs) = (wipeD δ vs).set v .em := rfl
omit [Tb] in
@[simp] theorem backD_nil (δ0 δ : DS) : backD δ0 δ [] = δ := rfl
omit [Tb] in
@[simp] theorem backD_cons (δ0 δ : DS) (v : Nat) (vs : List Nat) : backD δ0 δ (v :: vs) = (backD δ0 δ vs).set v (keepC ((δ0[v]?).getD .em)) := rfl
omit [Tb] in
@[simp] theorem keepC_d (x : PyData) : keepC (.d x) = .d x := rfl
omit [Tb] in
@[simp] theorem keepC_em : keepC .em = .em := rfl
omit [Tb] in
@[simp ↓] theorem isOl_ol (a : Addr) (xs : List PyData) (δ : DS) (i : Nat) (h : δ[i]? = some (.ol a xs)) : isOl δ i = True := eq_true ⟨a, xs, h⟩
omit [Tb] in
@[simp] theorem seqOf_l (xs : List PyData) : seqOf (.list xs) = some xs := rfl
omit [Tb] in
@[simp] theorem seqOf_t (xs : List PyData) : seqOf (.tuple xs) = some xs := rfl
omit [Tb] in
@[simp] theorem endsOf_nx (cs : List Cell) (R : PyData → List Cell → Prop) (δ : DS) : (endsOf cs R).nx δ = (sameIo cs δ ∧ R .none (outC cs δ)) := rfl
omit [Tb] in
@[simp] theorem endsOf_rt (cs : List Cell) (R : PyData → List Cell → Prop) (x : PyData) (δ : DS) : (endsOf cs R).rt x δ = (sameIo cs δ ∧ R x (outC cs δ)) := rfl
omit [Tb] in
@[simp] theorem sameIo_nil (δ : DS) : sameIo [] δ = True := by unfold sameIo; rfl
omit [Tb] in
@[simp] theorem sameIo_d (x : PyData) (cs : List Cell) (e : Cell) (δ : DS) : sameIo (.d x :: cs) (e :: δ) = sameIo cs δ := rfl
omit [Tb] in
@[simp] theorem sameIo_em (cs : List Cell) (e : Cell) (δ : DS) : sameIo (.em :: cs) (e :: δ) = sameIo cs δ := rfl
omit [Tb] in
@[simp] theorem sameIo_scr (a : Addr) (ns : List Int) (cs : List Cell) (e : Cell) (δ : DS) : sameIo (.scr a ns :: cs) (e :: δ) = sameIo cs δ := rfl
omit [Tb] in
@[simp] theorem sameIo_ol (a : Addr) (xs : List PyData) (cs : List Cell) (e : Cell) (δ : DS) : sameIo (.ol a xs :: cs) (e :: δ) = ((∃ ys, e = .ol a ys) ∧ sameIo cs δ) := rfl
omit [Tb] in
@[simp] theorem sameIo_dk (a b c : Addr) (cs : List Cell) (e : Cell) (δ : DS) : sameIo (.dk a b c :: cs) (e :: δ) = (e = .dk a b c ∧ sameIo cs δ) := rfl
omit [Tb] in
@[simp] theorem outC_nil (δ : DS) : outC [] δ = [] := by unfold outC; rfl
omit [Tb] in
@[simp] theorem outC_d (x : PyData) (cs : List Cell) (e : Cell) (δ : DS) : outC (.d x :: cs) (e :: δ) = .d x :: outC cs δ := rfl
omit [Tb] in
@[simp] theorem outC_em (cs : List Cell) (e : Cell) (δ : DS) : outC (.em :: cs) (e :: δ) = .em :: outC cs δ := rfl
omit [Tb] in
@[simp] theorem outC_scr (a : Addr) (ns : List Int) (cs : List Cell) (e : Cell) (δ : DS) : outC (.scr a ns :: cs) (e :: δ) = .scr a ns :: outC cs δ := rfl
omit [Tb] in
@[simp] theorem outC_ol (a : Addr) (xs : List PyData) (cs : List Cell) (e : Cell) (δ : DS) : outC (.ol a xs :: cs) (e :: δ) = e :: outC cs δ := rfl
omit [Tb] in
@[simp] theorem outC_dk (a b c : Addr) (cs : List Cell) (e : Cell) (δ : DS) : outC (.dk a b c :: cs) (e :: δ) = e :: outC cs δ := rfl
omit [Tb] in
@[simp] theorem start0_ap (n : Nat) (cs : List Cell) : start0 n cs = cs ++ List.replicate (n - cs.length) .em := rfl
theorem for_inv {g : DTG} {b : DTS} {xs : List PyData} {δ : DS} {E : DEnds} {u : Stop E} (P : List PyData → DS → Prop) (Q : DS → Prop) (Z : PyData → DS → Prop) (h : P xs δ) (h0 : ∀ δ, P [] δ → E.nx δ) (hq : ∀ δ, Q δ → E.nx δ) (hz : ∀ x δ, Z x δ → E.rt x δ)
    (hs : ∀ x xs δ, P (x :: xs) δ → ∀ (K B : DS → Prop) (T : PyData → DS → Prop), (∀ δ', P xs δ' → K δ') → (∀ δ', Q δ' → B δ') → (∀ x δ', Z x δ' → T x δ') → g x δ fun δ1 => b { nx := K, rt := T, bk := B, ct := K } δ1) : forC g b xs δ E u := by
  show forIt g b xs E δ
  induction xs generalizing δ with
  | nil => exact h0 δ h
  | cons x xs ih => exact hs x xs δ h _ _ _ (fun δ' p => ih p) hq hz
theorem com_inv {g : DTG} {t : DT} {e : DE} {vs : List Nat} {xs acc : List PyData} {δ : DS} {R : List PyData → DS → Prop} {u : Stop R} (P : List PyData → List PyData → DS → Prop) (h : P xs acc δ) (h0 : ∀ acc δ, P [] acc δ → R acc δ)
    (hs : ∀ x xs acc δ, P (x :: xs) acc δ → ∀ K : List PyData → DS → Prop, (∀ acc' δ', P xs acc' δ' → K acc' δ') → g x δ fun δ1 => t δ1 fun b δ2 => if b = true then e δ2 fun o δ3 => lk o δ3 fun y δ4 => K (acc ++ [y]) (wipeD δ4 vs) else K acc (wipeD δ2 vs)) : comC g t e vs xs acc δ R u := by
  show compIt g t e vs xs acc δ R
  induction xs generalizing acc δ with
  | nil => exact h0 acc δ h
  | cons x xs ih => exact hs x xs acc δ h (fun acc' δ' => compIt g t e vs xs acc' δ' R) fun acc' δ' p => ih p
/-- each item by one of many -/
theorem com_any {g : DTG} {t : DT} {e : DE} {vs : List Nat} {xs : List PyData} {δ : DS} {R : List PyData → DS → Prop} {u : Stop R} (Q : PyData → Prop)
    (hs : ∀ x ∈ xs, ∀ (acc : List PyData) (K : List PyData → DS → Prop), (∀ y, Q y → K (acc ++ [y]) δ) → g x δ fun δ1 => t δ1 fun b δ2 => if b = true then e δ2 fun o δ3 => lk o δ3 fun y δ4 => K (acc ++ [y]) (wipeD δ4 vs) else K acc (wipeD δ2 vs)) (k : ∀ ys, ys.length = xs.length → (∀ y ∈ ys, Q y) → R ys δ) : comC g t e vs xs [] δ R u := by
  refine com_inv (fun ys acc δ' => δ' = δ ∧ (∀ x ∈ ys, x ∈ xs) ∧ (∀ y ∈ acc, Q y) ∧ acc.length + ys.length = xs.length) ⟨rfl, fun _ h => h, by simp, by simp⟩ ?_ ?_
  · rintro acc δ' ⟨rfl, _, h, hl⟩
    exact k acc (by simpa using hl) h
  · rintro x ys acc δ' ⟨rfl, hm, h, hl⟩ K hK
    refine hs x (hm x (List.mem_cons_self ..)) acc K fun y qy => hK _ _ ⟨rfl, fun y hy => hm y (List.mem_cons_of_mem _ hy), fun z hz => ?_, by simp at hl ⊢; omega⟩
    rcases List.mem_append.mp hz with q | q
    · exact h z q
    · rw [List.mem_singleton.mp q]; exact qy
theorem ints_of : ∀ {ys : List PyData} {P : Int → Prop}, (∀ y ∈ ys, ∃ i, y = .int i ∧ P i) → ∃ ns : List Int, ys = ns.map PyData.int ∧ ∀ i ∈ ns, P i
  | [], _, _ => ⟨[], rfl, by simp⟩
  | y :: ys, P, h => by
    obtain ⟨i, rfl, hi⟩ := h y (List.mem_cons_self ..)
    obtain ⟨ns, rfl, hn⟩ := ints_of (ys := ys) fun z hz => h z (List.mem_cons_of_mem _ hz)
    exact ⟨i :: ns, rfl, fun j hj => by
      rcases List.mem_cons.mp hj with q | q
      · rw [q]; exact hi
      · exact hn j q⟩
/-- .. that are numbers -/
theorem com_ints {g : DTG} {t : DT} {e : DE} {vs : List Nat} {xs : List PyData} {δ : DS} {R : List PyData → DS → Prop} {u : Stop R} (P : Int → Prop)
    (hs : ∀ x ∈ xs, ∀ (acc : List PyData) (K : List PyData → DS → Prop), (∀ i, P i → K (acc ++ [.int i]) δ) → g x δ fun δ1 => t δ1 fun b δ2 => if b = true then e δ2 fun o δ3 => lk o δ3 fun y δ4 => K (acc ++ [y]) (wipeD δ4 vs) else K acc (wipeD δ2 vs)) (k : ∀ ns : List Int, ns.length = xs.length → (∀ i ∈ ns, P i) → R (ns.map PyData.int) δ) : comC g t e vs xs [] δ R u :=
  com_any (fun y => ∃ i, y = .int i ∧ P i) (fun x hx acc K hK => hs x hx acc K fun i hi => hK _ ⟨i, rfl, hi⟩) fun ys hl hy => by
    obtain ⟨ns, rfl, hn⟩ := ints_of hy
    exact k ns (by simpa using hl) hn
omit [Tb] in
@[simp ↓] theorem pEq_ii (i j : Int) (R : PyData → Prop) : pEq (.int i) (.int j) R = R (.bool (decide (i = j))) := by
  unfold pEq; simp [sc2, PyData.eqv]; rfl
omit [Tb] in
@[simp ↓] theorem pEq_ss (i j : Str) (R : PyData → Prop) : pEq (.str i) (.str j) R = R (.bool (decide (i = j))) := by
  unfold pEq; simp [sc2, PyData.eqv]
  have : (i == j) = decide (i = j) := by rw [Bool.eq_iff_iff]; simp
  rw [this]
omit [Tb] in
@[simp ↓] theorem pEq_bb (i j : Bool) (R : PyData → Prop) : pEq (.bool i) (.bool j) R = R (.bool (i == j)) := by
  unfold pEq; simp [sc2, PyData.eqv]
omit [Tb] in
@[simp ↓] theorem pEq_tt (xs ys : List PyData) (R : PyData → Prop) : pEq (.tuple xs) (.tuple ys) R = (SeqAt.shaped (.tuple xs) = true ∧ SeqAt.shaped (.tuple ys) = true ∧ R (.bool (PyData.eqvAll xs ys))) := by
  unfold pEq; simp [sc2, PyData.eqv, and_assoc]
omit [Tb] in
@[simp ↓] theorem pEq_ll (xs ys : List PyData) (R : PyData → Prop) : pEq (.list xs) (.list ys) R = (SeqAt.shaped (.list xs) = true ∧ SeqAt.shaped (.list ys) = true ∧ R (.bool (PyData.eqvAll xs ys))) := by
  unfold pEq; simp [sc2, PyData.eqv, and_assoc]
omit [Tb] in
@[simp ↓] theorem pNe_ii (i j : Int) (R : PyData → Prop) : pNe (.int i) (.int j) R = R (.bool (!decide (i = j))) := by
  unfold pNe; simp [sc2, PyData.eqv]; rfl
omit [Tb] in
@[simp ↓] theorem pNe_ss (i j : Str) (R : PyData → Prop) : pNe (.str i) (.str j) R = R (.bool (!decide (i = j))) := by
  unfold pNe; simp [sc2, PyData.eqv]
  have : (i == j) = decide (i = j) := by rw [Bool.eq_iff_iff]; simp
  simp only [bne, this]
omit [Tb] in
@[simp ↓] theorem pNe_bb (i j : Bool) (R : PyData → Prop) : pNe (.bool i) (.bool j) R = R (.bool (!(i == j))) := by
  unfold pNe; simp [sc2, PyData.eqv]
omit [Tb] in
@[simp ↓] theorem pNe_tt (xs ys : List PyData) (R : PyData → Prop) : pNe (.tuple xs) (.tuple ys) R = (SeqAt.shaped (.tuple xs) = true ∧ SeqAt.shaped (.tuple ys) = true ∧ R (.bool (!PyData.eqvAll xs ys))) := by
  unfold pNe; simp [sc2, PyData.eqv, and_assoc]
omit [Tb] in
@[simp ↓] theorem pNe_ll (xs ys : List PyData) (R : PyData → Prop) : pNe (.list xs) (.list ys) R = (SeqAt.shaped (.list xs) = true ∧ SeqAt.shaped (.list ys) = true ∧ R (.bool (!PyData.eqvAll xs ys))) := by
  unfold pNe; simp [sc2, PyData.eqv, and_assoc]
end DL
set_option Elab.async false
set_option linter.all false
set_option maxRecDepth 100000
set_option maxHeartbeats 4000000
namespace DL
open PySem PySem.Spec PyProof.Rows L2
variable [Tb]

section
variable {K : PySem.W.Frag} {B B0 G H : Hp} {δ : DS} {σ : L2.St}
theorem Rel.less (R : Rel K B G δ σ H) (h : ∀ a, B0 a = B a ∨ B0 a = none) : Rel K B0 G δ σ H := by
  refine ⟨R.len, R.sg, fun a o e => ?_, fun a => ?_, R.ok, R.ap, fun i c a e m => ?_, R.tt⟩
  · rcases h a with z | z
    · rw [z] at e; exact R.sb _ _ e
    · rw [z] at e; cases e
  · rcases h a with z | z
    · rw [z]; exact R.dj a
    · exact .inr z
  · obtain ⟨f1, f2⟩ := R.fr i c a e m
    refine ⟨f1, ?_⟩
    rcases h a with z | z
    · rw [z]; exact f2
    · exact z
theorem Rel.more {l : List Addr} (R : Rel K B G δ σ H) (hg : ∀ a ∈ l, G a = none) (hc : ∀ (i : Nat) (c : Cell) (a : Addr), δ[i]? = some c → a ∈ c.fp → a ∉ l) : Rel K (bov B H l) G δ σ H := by
  refine ⟨R.len, R.sg, fun a o e => ?_, fun a => ?_, R.ok, R.ap, fun i c a e m => ?_, R.tt⟩
  · unfold bov at e
    split at e
    · exact e
    · exact R.sb _ _ e
  · unfold bov
    split
    · rename_i hm; exact .inl (hg a hm)
    · exact R.dj a
  · obtain ⟨f1, f2⟩ := R.fr i c a e m
    refine ⟨f1, ?_⟩
    unfold bov
    rw [if_neg (hc i c a e m)]; exact f2
end

abbrev DSpM := List Cell → (Cell → List Cell → Prop) → Prop
def liftM (K : PySem.W.Frag) (sp : DSpM) : Sp := fun vs H Q _ => ∃ B G cs R, Rel K B G cs (vs.map some) H ∧ sp cs R ∧ ∀ v H' G' c cs', R c cs' → Same G G' → Rel K (bov B H' c.fp) G' cs' (vs.map some) H' → (∀ a ∈ c.fp, B a = none) → CellOk K G' H' c (some v) → Q v H'
def wCallM (m : List Bool) (sp : DSpM) (w : DA) : DM := fun δ R => w δ fun os δ1 => lkM m os δ1 fun os' δ2 => (slotsOf os').Nodup ∧ sp (os'.map (cellOf δ2)) fun c cs => R c (putBack os' cs δ2)
def askM (sp : DSpM) (cs : List Cell) (R : Cell → List Cell → Prop) (_u : Stop R) : Prop := sp cs R
omit [Tb] in
@[simp ↓] theorem wCallM_ap (m : List Bool) (sp : DSpM) (w : DA) (δ : DS) (R : Cell → DS → Prop) : wCallM m sp w δ R = (w δ fun os δ1 => lkM m os δ1 fun os' δ2 => (slotsOf os').Nodup ∧ askM sp (os'.map (cellOf δ2)) (fun c cs => R c (putBack os' cs δ2)) .mk) := rfl
section
variable {X : Cx} {k : Nat} {f : Addr} {fd : FuncData} {ps : List Str} {x : Str} {p pos : Pos} {e : Expr} {es : List Expr}
theorem jm_call {m : List Bool} {sp : DSpM} {w : DA} (F : FnG X.prog X.w X.K X.mg X.base CX0 k f fd ps (liftM X.K sp)) (hr : RoomG k X.A) (hg : Gl X x) (hm : X.mg x = some (.ref f)) (hk : PySem.W.keepIn X.K (.ref f) = true) (hb : Binds X.K fd ps [])
    (ha : JA X (e :: es) w) (hdb : (x == ("__debug__" : Str)) = false := by decide) (he : starEach (e :: es) X.env = (false, eval e X.env) :: starEach es X.env := by rfl) (hpl : (backTo pos (starEach es X.env)).any (·.1) = false := by rfl) : JM X (.Call (.Name x p) (e :: es) [] pos) (wCallM m sp w) :=
  pe_le (pe_callG (E := E0) F hr hg hm hk hb pass0 ha hdb he hpl) fun pins s σ H Q I ⟨B, G, δ, R, rel, hw, k⟩ => ⟨B, G, δ, _, rel, hw, fun vs H1 G1 os δ1 r1 s1 rel1 ok1 => by
    obtain ⟨G2, δ2, os', ⟨nd, q⟩, s2, rel2, ok2⟩ := lkM_ok rel1 ok1 r1
    rw [List.append_nil]
    refine ⟨_, G2, _, _, call_rel rel2 ok2 nd, q, fun v H' G' c cs r s3 rel3 hB okc => ?_⟩
    have low : Rel X.K (hold B H1 δ2 (slotsOf os')) G' cs (vs.map some) H' := rel3.less fun a => by
      unfold bov
      split
      · rename_i hm; exact .inr (hB a hm)
      · exact .inl rfl
    have rel4 := call_back rel2 ok2 nd s3 low
    have hlen : os'.length = cs.length := by rw [← opds_len ok2, ← low.len, List.length_map]
    have tr : ∀ a ∈ c.fp, ∃ o, H' a = some o := fun a m => cell_tr okc m
    have hB0 : ∀ a ∈ c.fp, B a = none := fun a m => by
      have z := hB a m
      by_cases h : ∃ i c, δ2[i]? = some c ∧ a ∈ c.fp ∧ i ∉ slotsOf os'
      · obtain ⟨i, c', h1, h2, _⟩ := h
        exact (rel2.fr i c' a h1 h2).2
      · rw [hold_out h] at z; exact z
    have hG : ∀ a ∈ c.fp, G' a = none := fun a m => by
      rcases rel3.dj a with z | z
      · exact z
      · unfold bov at z
        rw [if_pos m] at z
        obtain ⟨o, eo⟩ := tr a m
        rw [eo] at z; cases z
    refine k v H' G' c _ r (s1.trans (s2.trans s3)) (rel4.more hG fun i c' a e m ma => ?_) hB0 okc
    rcases putBack_at hlen nd e with ⟨h1, h2⟩ | ⟨j, h1, h2⟩
    · have z := hB a ma
      rw [hold_in ⟨i, c', h2, m, h1⟩] at z
      obtain ⟨o, eo⟩ := rel2.tr h2 m
      rw [eo] at z; cases z
    · obtain ⟨_, f2⟩ := rel3.fr j c' a h2 m
      unfold bov at f2
      rw [if_pos ma] at f2
      obtain ⟨o, eo⟩ := tr a ma
      rw [eo] at f2; cases f2⟩
end

def spDeck : DSpM := fun cs R => ∃ a ns, cs = [.scr a ns] ∧ ∀ p b c, R (.dk p b c) [.scr a ns]
/-- script[:63] -/
def wCut (i : Nat) : DE := fun δ R => ∃ a ns, δ[i]? = some (.scr a ns) ∧ R (.d (.list ((ns.take 63).map PyData.int))) δ
omit [Tb] in
@[simp ↓] theorem wCut_ap (i : Nat) (δ : DS) (R : Opd → DS → Prop) : wCut i δ R = (∃ a ns, δ[i]? = some (.scr a ns) ∧ R (.d (.list ((ns.take 63).map PyData.int))) δ) := rfl
theorem cutV_take (xs : List V) (n : Nat) : cutV xs none (some (n : Int)) = xs.take n := by
  unfold cutV
  rw [HT.sIx_none, HT.sIx_nat]
  simp only [List.drop_zero, Nat.sub_zero]
  by_cases h : n ≤ xs.length
  · rw [Nat.min_eq_left h]
  · rw [Nat.min_eq_right (by omega), List.take_of_length_le (by omega), List.take_of_length_le (by omega)]
theorem je_cut {X : Cx} {i : Nat} {x : Str} {px p1 p2 pos : Pos} {k1} (h : PE X (.Name x px) (tVar i)) : JE X (.Subscript (.Name x px) (.Slice none (some (.Constant (.int 63) k1 p1)) none p2) pos) (wCut i) :=
  pe_le (pe_slice sl_list h po_none (po_some pe_int)) fun pins s σ H Q I ⟨B, G, δ, R, rel, ⟨a, ns, hδ, hw⟩, k⟩ => by
    obtain ⟨o, hσ, rfl, hq⟩ := rel.at hδ
    refine ⟨.ref a, hσ, 63, rfl, a, ns.map V.int, rfl, rel.sg.seq hq, fun p np => ?_⟩
    obtain ⟨rel3, s3⟩ := rel.laid (o := .lst (cutV (ns.map V.int) none (some 63))) np
    refine k _ _ _ _ _ hw s3 rel3 (Dn.lst upd_same ?_)
    rw [show (63 : Int) = ((63 : Nat) : Int) from rfl, cutV_take, ← List.map_take]
    exact DnL.ints _
def wDk1 : DTS := wSet 1 (mL (wComp (iSeq (wCut 0)) (gN 2) tT (wFn pAbs (wCons (wVar 2) wNil)) [2]))
def wDk2 : DMs := msCons (mL (wComp (iSeq (wVar 1)) (gN 2) (wB (wOp pGe (wVar 2) (wOp pPow (wC (.int 10)) (wC (.int 18))))) (wVar 2) [2]))
  (msCons (mL (wOpL pAddL (wVar 1) (wOfL (wLst (wCons (wOp pAdd (wC (.int 11228)) (wFn pLen (wCons (wVar 1) wNil))) wNil))))) (msCons (mE (wC (.int 0))) msNil))
theorem comp_abs {δ : DS} {R : List PyData → DS → Prop} {d0 d1 : Cell} (hd : δ = [d0, d1, .em]) (k : ∀ ms : List Int, ms.length ≤ 63 → R (ms.map PyData.int) δ) (ns : List Int) (hn : ns.length ≤ 63) :
    compIt (gN 2) tT (wFn pAbs (wCons (wVar 2) wNil)) [2] (ns.map PyData.int) [] δ R := by
  refine com_inv (u := .mk) (fun xs acc δ' => δ' = δ ∧ ∃ ns ms : List Int, xs = ns.map PyData.int ∧ acc = ms.map PyData.int ∧ ms.length + ns.length ≤ 63) ⟨rfl, ns, [], rfl, rfl, by simpa using hn⟩ ?_ ?_
  · rintro acc δ' ⟨rfl, ns, ms, h1, rfl, h3⟩
    exact k ms (by omega)
  · rintro x xs acc δ' ⟨rfl, ns, ms, h1, rfl, h3⟩ K ih
    cases ns with
    | nil => cases h1
    | cons n ns =>
      simp only [List.map_cons, List.cons.injEq] at h1
      obtain ⟨rfl, rfl⟩ := h1
      subst hd
      simp
      exact ih _ _ ⟨rfl, ns, ms ++ [if n < 0 then -n else n], rfl, by simp, by simp at h3 ⊢; omega⟩
theorem comp_ge {δ : DS} {R : List PyData → DS → Prop} {d0 d1 : Cell} (hd : δ = [d0, d1, .em]) (k : ∀ ms : List Int, (∀ x ∈ ms, 0 ≤ x) → R (ms.map PyData.int) δ) (ns : List Int) :
    compIt (gN 2) (wB (wOp pGe (wVar 2) (wOp pPow (wC (.int 10)) (wC (.int 18))))) (wVar 2) [2] (ns.map PyData.int) [] δ R := by
  refine com_inv (u := .mk) (fun xs acc δ' => δ' = δ ∧ ∃ ns ms : List Int, xs = ns.map PyData.int ∧ acc = ms.map PyData.int ∧ ∀ x ∈ ms, 0 ≤ x) ⟨rfl, ns, [], rfl, rfl, by simp⟩ ?_ ?_
  · rintro acc δ' ⟨rfl, ns, ms, h1, rfl, h3⟩
    exact k ms h3
  · rintro x xs acc δ' ⟨rfl, ns, ms, h1, rfl, h3⟩ K ih
    cases ns with
    | nil => cases h1
    | cons n ns =>
      simp only [List.map_cons, List.cons.injEq] at h1
      obtain ⟨rfl, rfl⟩ := h1
      subst hd
      simp [CPow]
      split
      · exact ih _ _ ⟨rfl, ns, ms ++ [n], rfl, by simp, fun x hx => by
          rcases List.mem_append.mp hx with q | q
          · exact h3 x q
          · rw [List.mem_singleton.mp q]; omega⟩
      · exact ih _ _ ⟨rfl, ns, ms, rfl, rfl, h3⟩
theorem ok_deck {P : Program} {w : World} {K : PySem.W.Frag} {mg : Str → Option Value} {base : Heap} {x qual : Str} {st : Stmt} {f : Addr} {fd : FuncData} {N ps : List Str} {k : Nat} {st1 : Stmt} {es : List Expr} {p1 p2 : Pos} (F : Fun K x qual st f fd) (S : FnScope N ps (defScope st)) (hN : N.length = 3) (hp : ps.length = 1)
    (hb : defBody st = [st1, .Return (some (.List es p1)) p2])
    (h1 : ∀ (cdv : Value) (A : Around) (outer : List Env) (s : Shared) (H : Hp) (E : XK), RoomG k (A.deeper (envOfC qual (defScope st) s.heap.objs.size f cdv)) → JS (cxOf CX0 P w K mg base N qual (defScope st) f cdv A outer s H E).nox st1 wDk1)
    (h2 : ∀ (cdv : Value) (A : Around) (outer : List Env) (s : Shared) (H : Hp) (E : XK), RoomG k (A.deeper (envOfC qual (defScope st) s.heap.objs.size f cdv)) → JMs (cxOf CX0 P w K mg base N qual (defScope st) f cdv A outer s H E).nox es wDk2) : FnG P w K mg base CX0 (k + 1) f fd ps (liftM K spDeck) := by
  obtain ⟨oc, od, kV, doc, pm, an, cdv, ct, osl, rfl, lk', hcd⟩ := F.ex
  refine fnG_of lk' hcd S (fun vs H Q E ⟨B, G, cs, R, rel, ⟨a, ns, e, _⟩, _⟩ => by have := rel.len; subst e; simp at this; omega) fun A outer s H vs Q E hr ⟨B, G, cs, R, rel, ⟨a, ns, e, hR⟩, kk⟩ => ?_
  subst e
  rw [hb]
  refine ⟨_, (pss_cons (h1 cdv A outer s H E hr) (pss_one (ps_ret (pe_lst (h2 cdv A outer s H E hr))))).nox, ?_⟩
  have e0 : start0 N.length [Cell.scr a ns] = [.scr a ns, .em, .em] := by rw [hN]; rfl
  refine ⟨B, G, [.scr a ns, .em, .em], { nx := fun δ => ∃ q xs, δ = [.scr a ns, .ol q (xs.map PyData.int), .em] ∧ (xs : List Int).length ≤ 63, rt := fun _ _ => False }, e0 ▸ rel_start rel, ?_, ?_⟩
  · unfold wDk1
    simp
    refine ⟨a, ns, ⟨rfl, rfl⟩, ?_⟩
    rw [← List.map_take]
    exact comp_abs rfl (fun ms hm q => ⟨q, ms, by simp [hm]⟩) _ (by rw [List.length_take]; omega)
  · refine ⟨?_, fun _ _ _ _ _ _ h => h.elim, fun _ _ _ _ h => h.elim, fun _ _ _ _ h => h.elim⟩
    rintro σ1 H1 G1 δ1 ⟨q, xs, rfl, hx⟩ s1 rel1
    refine ⟨B, G1, _, fun cs δ => ∃ (q1 q2 : Addr) (ms ys : List Int) (d1 : Cell), cs = [.ol q1 (ms.map PyData.int), .ol q2 (ys.map PyData.int), .d (.int 0)] ∧ δ = [.scr a ns, d1, .em] ∧ (∀ x ∈ ms, (0 : Int) ≤ x) ∧ ys ≠ [], rel1, ?_, ?_⟩
    · unfold wDk2
      simp
      refine comp_ge rfl (fun ms hm q1 => ?_) _
      simp
      refine ⟨by omega, fun q2 => ⟨q1, q2, ms, xs ++ [11228 + (xs.length : Int)], ⟨⟨rfl, rfl⟩, rfl, by simp⟩, hm, by simp⟩⟩
    · rintro vs2 H2 G2 cs δ2 ⟨b, c, ms, ys, d1, rfl, rfl, hm, hy⟩ s2 rel2 hB2 ok2
      cases ok2 with
      | cons o1 n1 t1 =>
        cases t1 with
        | cons o2 n2 t2 =>
          cases t2 with
          | cons o3 n3 t3 =>
            cases t3
            obtain ⟨e1, w1, hb, t1⟩ := o1
            obtain ⟨e2, w2, hc, t2⟩ := o2
            obtain ⟨v3, e3, t3⟩ := o3
            cases e1
            cases e2
            cases e3
            obtain rfl := t1.toInts
            obtain rfl := t2.toInts
            obtain rfl := dn_int t3
            refine ⟨by show 3 ≤ sizeLine; rw [sizeLine_eq]; omega, fun p np => ?_⟩
            have bc : b ≠ c := fun e => n1 b (by simp [Cell.fp]) (by simp [fps, Cell.fp, e])
            have pb : p ≠ b := fun e => by rw [e, hb] at np; cases np
            have pc : p ≠ c := fun e => by rw [e, hc] at np; cases np
            have rel3 := rel_end rel (rel2.growB (o := .lst [.ref b, .ref c, .int 0]) np |>.less (B0 := B) fun a => ?_) (s1.trans s2) (show sameIo [Cell.scr a ns] _ from trivial)
            · have eb : (fps [Cell.ol b (ms.map PyData.int), Cell.ol c (ys.map PyData.int), Cell.d (.int 0)]) = [b, c] := rfl
              rw [eb] at rel2 hB2
              have hB : ∀ a ∈ [p, b, c], B a = none := fun a m => by
                rcases List.mem_cons.mp m with e | m
                · rw [e]
                  have z := rel2.freeB np
                  unfold bov at z
                  rw [if_neg (by simp [pb, pc])] at z; exact z
                · exact hB2 a m
              refine kk _ _ G2 (.dk p b c) _ (hR p b c) (s1.trans s2) (rel3.more (fun a m => ?_) ?_) hB ⟨rfl, pb, pc, bc, 0, ms, ys, upd_same, by rw [upd_ne pb.symm]; exact hb, by rw [upd_ne pc.symm]; exact hc, hy, hm⟩
              · rcases List.mem_cons.mp m with e | m
                · rw [e]; exact rel2.freeG np
                · rcases rel2.dj a with z | z
                  · exact z
                  · unfold bov at z
                    rw [if_pos m] at z
                    have m' : a = b ∨ a = c := by simpa using m
                    rcases m' with rfl | rfl
                    · rw [hb] at z; cases z
                    · rw [hc] at z; cases z
              · intro i c' a' e m
                have : c' = .scr a ns := by
                  cases i with
                  | zero => simp [outC] at e; exact e.symm
                  | succ i => simp [outC] at e
                rw [this] at m; cases m
            · by_cases h : a = p
              · refine .inr ?_
                rw [h]
                have z := rel2.freeB np
                unfold bov at z
                split at z
                · rename_i hm2
                  rw [z] at np
                  have : H2 p = none := z
                  rcases (show p = b ∨ p = c by simpa [fps, Cell.fp] using hm2) with e | e
                  · exact absurd e pb
                  · exact absurd e pc
                · exact z
              · rw [upd_ne h]
                unfold bov
                split
                · rename_i hm2
                  exact .inr (hB2 a hm2)
                · exact .inl rfl
end DL
set_option Elab.async false
set_option linter.all false
set_option maxRecDepth 100000
set_option maxHeartbeats 4000000
namespace DL
open PySem PySem.Spec PyProof.Rows L2
variable [Tb]

section
variable {K : PySem.W.Frag} {B G H : Hp} {δ : DS} {σ : L2.St}
theorem notTE_dT {ws : List (List Key × V)} : notTE (.dT ws) := ⟨fun _ z => (nomatch z), fun _ z => (nomatch z)⟩
theorem notTE_ins {C dx : Addr} {ws : List (Str × V)} : notTE (.ins C dx ws) := ⟨fun _ z => (nomatch z), fun _ z => (nomatch z)⟩
theorem cell_te {c : Cell} {p : Addr} {o : Option V} (ok : CellOk K G H c o) (hc : p ∈ c.fp) : ∀ x, H p = some x → notTE x := by
  have one : ∀ {y : HO}, H p = some y → notTE y → ∀ x, H p = some x → notTE x := fun {y} e h x e2 => by
    rw [e] at e2
    cases e2
    exact h
  cases c with
  | em => cases hc
  | d x => cases hc
  | ol a xs =>
    obtain ⟨_, vs, e, _⟩ := ok
    rw [List.mem_singleton.mp hc] at one ⊢
    exact one e notTE_lst
  | dk a b c =>
    obtain ⟨_, _, _, _, n, xs, ys, e1, e2, e3, _⟩ := ok
    simp only [Cell.fp, List.mem_cons, List.not_mem_nil, or_false] at hc
    rcases hc with rfl | rfl | rfl
    · exact one e1 notTE_lst
    · exact one e2 notTE_lst
    · exact one e3 notTE_lst
  | scr a ns => cases hc
  | xc a cls d x => cases hc
  | ob a n fs =>
    obtain ⟨_, C, dx, ws, e, _⟩ := ok
    rw [List.mem_singleton.mp hc] at one ⊢
    exact one e notTE_ins
  | od a kvs =>
    obtain ⟨_, ws, e, _⟩ := ok
    rw [List.mem_singleton.mp hc] at one ⊢
    exact one e notTE_dT
  | dx a b c xs n ys =>
    obtain ⟨_, _, _, _, e1, e2, e3⟩ := ok
    simp only [Cell.fp, List.mem_cons, List.not_mem_nil, or_false] at hc
    rcases hc with rfl | rfl | rfl
    · exact one e1 notTE_lst
    · exact one e2 notTE_lst
    · exact one e3 notTE_lst
/-- an object of a slot's thing is changed -/
theorem Rel.put {i : Nat} {c c' : Cell} {p : Addr} {o : HO} {ov : Option V} (R : Rel K B G δ σ H) (h : δ[i]? = some c) (hσ : σ[i]? = some ov) (hp : p ∈ c.fp) (hf : c'.fp = c.fp) (ok : CellOk K G (upd H p o) c' ov) : Rel K B G (δ.set i c') σ (upd H p o) := by
  obtain ⟨ga, ba⟩ := R.fr i _ p h hp
  have hi : i < δ.length := (List.getElem?_eq_some_iff.mp h).1
  have get : ∀ {j : Nat} {x : Cell}, (δ.set i c')[j]? = some x → (j = i ∧ x = c') ∨ (j ≠ i ∧ δ[j]? = some x) := fun {j x} e => by
    by_cases hj : j = i
    · subst hj
      rw [List.getElem?_set_self hi] at e; cases e; exact .inl ⟨rfl, rfl⟩
    · rw [List.getElem?_set_ne (Ne.symm hj)] at e; exact .inr ⟨hj, e⟩
  refine ⟨by simp [R.len], fun b x q => ?_, fun b x q => ?_, R.dj, fun j x w e1 e2 => ?_, fun j k x y z e1 e2 m1 m2 => ?_, fun j x z e1 m => ?_, tabs_upd R.tt (cell_te (R.ok i c _ h hσ) hp)⟩
  · rw [upd_ne (fun z => by rw [z, ga] at q; cases q)]; exact R.sg _ _ q
  · rw [upd_ne (fun z => by rw [z, ba] at q; cases q)]; exact R.sb _ _ q
  · rcases get e1 with ⟨rfl, rfl⟩ | ⟨hj, e1⟩
    · rw [hσ] at e2; cases e2; exact ok
    · refine (R.ok j x w e1 e2).stay (Same.refl _) fun b hb => upd_ne fun q => ?_
      rw [q] at hb
      exact hj (R.ap j i x _ p e1 h hb hp)
  · rcases get e1 with h1 | h1
    · obtain ⟨h1, e1'⟩ := h1
      rw [e1'] at m1
      rcases get e2 with ⟨h2, e3⟩ | ⟨h2, e3⟩
      · rw [h1, h2]
      · exact h1.trans (R.ap i k _ y z h e3 (by rw [← hf]; exact m1) m2)
    · rcases get e2 with ⟨h2, e3⟩ | ⟨h2, e3⟩
      · rw [e3] at m2
        exact (R.ap j i x _ z h1.2 h m1 (by rw [← hf]; exact m2)).trans h2.symm
      · exact R.ap j k x y z h1.2 e3 m1 m2
  · rcases get e1 with ⟨_, rfl⟩ | ⟨hj, e1⟩
    · exact R.fr i _ z h (by rw [← hf]; exact m)
    · exact R.fr j x z e1 m
/-- the deck is looked into, or closed -/
theorem Rel.swap {i : Nat} {c c' : Cell} {ov : Option V} (R : Rel K B G δ σ H) (h : δ[i]? = some c) (hσ : σ[i]? = some ov) (hf : c'.fp = c.fp) (ok : CellOk K G H c' ov) : Rel K B G (δ.set i c') σ H :=
  R.recell hσ ok fun a m => ⟨R.fr i c a h (by rw [← hf]; exact m), fun j x hj e m2 => hj (R.ap j i x c a e h m2 (by rw [← hf]; exact m))⟩
end

/-- deck[2] -/
def wK2 (i : Nat) : DE := fun δ R => ∃ a b c xs n ys, δ[i]? = some (.dx a b c xs n ys) ∧ R (.d (.int n)) δ
/-- deck[0][0] -/
def wK00 (i : Nat) : DE := fun δ R => ∃ a b c xs n ys x, δ[i]? = some (.dx a b c xs n ys) ∧ xs.head? = some x ∧ R (.d (.int x)) δ
/-- deck[0] != [] -/
def wKne (i : Nat) : DT := fun δ R => ∃ a b c xs n ys, δ[i]? = some (.dx a b c xs n ys) ∧ R (!xs.isEmpty) δ
/-- deck[1][e] -/
def wK1 (i : Nat) (w : DE) : DE := fun δ R => ∃ a b c xs n ys, δ[i]? = some (.dx a b c xs n ys) ∧ w δ fun o δ1 => use o δ1 fun d => ∃ j z, d = .int j ∧ δ1[i]? = some (.dx a b c xs n ys) ∧ atI ys j = some z ∧ R (.d (.int z)) δ1
/-- len(deck[1]) -/
def wKlen (i : Nat) : DE := fun δ R => ∃ a b c xs n ys, δ[i]? = some (.dx a b c xs n ys) ∧ R (.d (.int (ys.length : Nat))) δ
/-- deck[0][0] = e -/
def wPut00 (i : Nat) (w : DE) : DTS := fun E δ => w δ fun o δ1 => use o δ1 fun d => ∃ v a b c x xs n ys, d = .int v ∧ δ1[i]? = some (.dx a b c (x :: xs) n ys) ∧ E.nx (δ1.set i (.dx a b c (v :: xs) n ys))
/-- deck[0].pop(0) -/
def wPop0 (i : Nat) : DTS := fun E δ => ∃ a b c x xs n ys, δ[i]? = some (.dx a b c (x :: xs) n ys) ∧ E.nx (δ.set i (.dx a b c xs n ys))
/-- deck[2] = e -/
def wPut2 (i : Nat) (w : DE) : DTS := fun E δ => w δ fun o δ1 => use o δ1 fun d => ∃ v a b c xs n ys, d = .int v ∧ δ1[i]? = some (.dx a b c xs n ys) ∧ E.nx (δ1.set i (.dx a b c xs v ys))
def asX (c : Option Cell) (k : Addr → Addr → Addr → List Int → Int → List Int → Prop) : Prop := match c with
  | some (.dx a b c xs n ys) => k a b c xs n ys
  | _ => False
omit [Tb] in
@[simp ↓] theorem asX_x (a b c : Addr) (xs : List Int) (n : Int) (ys : List Int) (k : Addr → Addr → Addr → List Int → Int → List Int → Prop) : asX (some (.dx a b c xs n ys)) k = k a b c xs n ys := rfl
theorem ex_x (c : Option Cell) (k : Addr → Addr → Addr → List Int → Int → List Int → Prop) : (∃ p q r xs n ys, c = some (.dx p q r xs n ys) ∧ k p q r xs n ys) = asX c k := by
  cases c with
  | none => simp [asX]
  | some c =>
    cases c with
    | dx p q r xs n ys =>
      refine propext ⟨fun ⟨_, _, _, _, _, _, e, h⟩ => ?_, fun h => ⟨_, _, _, _, _, _, rfl, h⟩⟩
      cases e; exact h
    | _ => simp [asX]
def head1 (xs : List Int) (k : Int → List Int → Prop) : Prop := match xs with
  | x :: r => k x r
  | [] => False
omit [Tb] in
@[simp] theorem head1_c (x : Int) (xs : List Int) (k : Int → List Int → Prop) : head1 (x :: xs) k = k x xs := rfl
omit [Tb] in
@[simp ↓] theorem wK2_ap (i : Nat) (δ : DS) (R : Opd → DS → Prop) : wK2 i δ R = asX δ[i]? fun a b c xs n ys => R (.d (.int n)) δ := by
  rw [← ex_x]; rfl
omit [Tb] in
@[simp ↓] theorem wK00_ap (i : Nat) (δ : DS) (R : Opd → DS → Prop) : wK00 i δ R = asX δ[i]? fun a b c xs n ys => head1 xs fun x _ => R (.d (.int x)) δ := by
  rw [← ex_x]
  refine propext ⟨fun ⟨a, b, c, xs, n, ys, x, h, h2, q⟩ => ⟨a, b, c, xs, n, ys, h, ?_⟩, fun ⟨a, b, c, xs, n, ys, h, q⟩ => ?_⟩
  · cases xs with
    | nil => cases h2
    | cons y r => cases h2; exact q
  · cases xs with
    | nil => exact q.elim
    | cons y r => exact ⟨a, b, c, _, n, ys, y, h, rfl, q⟩
omit [Tb] in
@[simp ↓] theorem wKne_ap (i : Nat) (δ : DS) (R : Bool → DS → Prop) : wKne i δ R = asX δ[i]? fun a b c xs n ys => R (!xs.isEmpty) δ := by
  rw [← ex_x]; rfl
omit [Tb] in
@[simp ↓] theorem wK1_ap (i : Nat) (w : DE) (δ : DS) (R : Opd → DS → Prop) : wK1 i w δ R = asX δ[i]? fun a b c xs n ys => w δ fun o δ1 => use o δ1 fun d => asI d (fun j => δ1[i]? = some (.dx a b c xs n ys) ∧ onS (atI ys j) (fun z => R (.d (.int z)) δ1) .mk) .mk := by
  rw [← ex_x]; simp only [← ex_int, ← ex_some, ← exists_and_left]; rfl
omit [Tb] in
@[simp ↓] theorem wKlen_ap (i : Nat) (δ : DS) (R : Opd → DS → Prop) : wKlen i δ R = asX δ[i]? fun a b c xs n ys => R (.d (.int (ys.length : Nat))) δ := by
  rw [← ex_x]; rfl
omit [Tb] in
@[simp ↓] theorem wPut00_ap (i : Nat) (w : DE) (E : DEnds) (δ : DS) : wPut00 i w E δ = (w δ fun o δ1 => use o δ1 fun d => asI d (fun v => asX δ1[i]? fun a b c xs n ys => head1 xs fun _ r => E.nx (δ1.set i (.dx a b c (v :: r) n ys))) .mk) := by
  unfold wPut00
  simp only [← ex_x, ← ex_int]
  congr 1; funext o δ1; congr 1; funext d
  refine propext ⟨fun ⟨v, a, b, c, x, xs, n, ys, h0, h, q⟩ => ⟨v, h0, a, b, c, _, n, ys, h, q⟩, fun ⟨v, h0, a, b, c, xs, n, ys, h, q⟩ => ?_⟩
  cases xs with
  | nil => exact q.elim
  | cons y r => exact ⟨v, a, b, c, y, r, n, ys, h0, h, q⟩
omit [Tb] in
@[simp ↓] theorem wPop0_ap (i : Nat) (E : DEnds) (δ : DS) : wPop0 i E δ = asX δ[i]? fun a b c xs n ys => head1 xs fun _ r => E.nx (δ.set i (.dx a b c r n ys)) := by
  rw [← ex_x]
  refine propext ⟨fun ⟨a, b, c, x, xs, n, ys, h, q⟩ => ⟨a, b, c, _, n, ys, h, q⟩, fun ⟨a, b, c, xs, n, ys, h, q⟩ => ?_⟩
  cases xs with
  | nil => exact q.elim
  | cons y r => exact ⟨a, b, c, y, r, n, ys, h, q⟩
omit [Tb] in
@[simp ↓] theorem wPut2_ap (i : Nat) (w : DE) (E : DEnds) (δ : DS) : wPut2 i w E δ = (w δ fun o δ1 => use o δ1 fun d => asI d (fun v => asX δ1[i]? fun a b c xs n ys => E.nx (δ1.set i (.dx a b c xs v ys))) .mk) := by
  unfold wPut2
  simp only [← ex_x, ← ex_int]
  congr 1; funext o δ1; congr 1; funext d
  exact propext ⟨fun ⟨v, a, b, c, xs, n, ys, h0, h, q⟩ => ⟨v, h0, a, b, c, xs, n, ys, h, q⟩, fun ⟨v, h0, a, b, c, xs, n, ys, h, q⟩ => ⟨v, a, b, c, xs, n, ys, h0, h, q⟩⟩
section
variable {X : Cx} {i : Nat} {x : Str} {px pos p1 p2 p3 p4 p5 : Pos} {k1 k2 : Nat}
theorem atI_map {α β : Type} (f : α → β) (xs : List α) (j : Int) : atI (xs.map f) j = (atI xs j).map f := by
  unfold atI
  rw [List.length_map]
  cases ixN xs.length j with
  | none => rfl
  | some k => simp
theorem je_k2 (h : PE X (.Name x px) (tVar i)) : JE X (.Subscript (.Name x px) (.Constant (.int 2) k1 p1) pos) (wK2 i) :=
  pe_le (pe_ix ix_list h pe_int (fun _ _ => rfl)) fun pins s σ H Q I ⟨B, G, δ, R, rel, ⟨a, b, c, xs, n, ys, hδ, hw⟩, k⟩ => by
    obtain ⟨o, hσ, rfl, h1, h2, h3, e1, e2, e3⟩ := rel.at hδ
    exact ⟨.ref a, hσ, a, _, 2, .int n, rfl, rfl, SqL.of e1, rfl, k _ H G _ δ hw (Same.refl _) rel (Dn.int _)⟩
theorem je_k00 (h : PE X (.Name x px) (tVar i)) : JE X (.Subscript (.Subscript (.Name x px) (.Constant (.int 0) k1 p1) p2) (.Constant (.int 0) k2 p3) pos) (wK00 i) :=
  pe_le (pe_ix ix_list (pe_ix ix_list h pe_int (fun _ _ => rfl)) pe_int (fun _ _ => rfl)) fun pins s σ H Q I ⟨B, G, δ, R, rel, ⟨a, b, c, xs, n, ys, x, hδ, hx, hw⟩, k⟩ => by
    obtain ⟨o, hσ, rfl, h1, h2, h3, e1, e2, e3⟩ := rel.at hδ
    cases xs with
    | nil => cases hx
    | cons y xs =>
      cases hx
      exact ⟨.ref a, hσ, a, _, 0, .ref b, rfl, rfl, SqL.of e1, rfl, b, _, 0, .int x, rfl, rfl, SqL.of e2, by simp [atI, ixN], k _ H G _ δ hw (Same.refl _) rel (Dn.int _)⟩
theorem je_k1 {e : Expr} {w : DE} (h : PE X (.Name x px) (tVar i)) (he : JE X e w) (hs : PlainIx e) : JE X (.Subscript (.Subscript (.Name x px) (.Constant (.int 1) k1 p1) p2) e pos) (wK1 i w) :=
  pe_le (pe_ix ix_list (pe_ix ix_list h pe_int (fun _ _ => rfl)) he hs) fun pins s σ H Q I ⟨B, G, δ, R, rel, ⟨a, b, c, xs, n, ys, hδ, hw⟩, k⟩ => by
    obtain ⟨o, hσ, rfl, h1, h2, h3, e1, e2, e3⟩ := rel.at hδ
    refine ⟨.ref a, hσ, a, _, 1, .ref c, rfl, rfl, SqL.of e1, rfl, B, G, δ, _, rel, hw, fun v H1 G1 o δ1 r1 s1 rel1 ok1 => ?_⟩
    obtain ⟨d, ⟨j, z, rfl, hδ1, hz, q⟩, bd⟩ := use_ok rel1 ok1 r1
    obtain ⟨o', hσ', e', h1', h2', h3', e1', e2', e3'⟩ := rel1.at hδ1
    exact ⟨c, _, j, .int z, rfl, bor_int bd, SqL.of e3', by rw [atI_map, hz]; rfl, k _ H1 G1 _ δ1 q s1 rel1 (Dn.int _)⟩
theorem je_klen {xl : Str} {pl : Pos} (hg : Gl X xl) (hm : X.mg xl = none) (hv : bootBuiltins xl = some (.builtin "len")) (h : PE X (.Name x px) (tVar i)) (hn : xl ≠ "__name__" := by decide) (hdb : (xl == ("__debug__" : Str)) = false := by decide)
    (he : starEach [.Subscript (.Name x px) (.Constant (.int 1) k1 p1) p2] X.env = (false, eval (.Subscript (.Name x px) (.Constant (.int 1) k1 p1) p2) X.env) :: starEach [] X.env := by rfl) :
    JE X (.Call (.Name xl pl) [.Subscript (.Name x px) (.Constant (.int 1) k1 p1) p2] [] pos) (wKlen i) :=
  pe_le (pe_callB call_len hg hm hv (pa_cons (pe_ix ix_list h pe_int (fun _ _ => rfl)) pa_nil he) hn hdb he rfl) fun pins s σ H Q I ⟨B, G, δ, R, rel, ⟨a, b, c, xs, n, ys, hδ, hw⟩, k⟩ => by
    obtain ⟨o, hσ, rfl, h1, h2, h3, e1, e2, e3⟩ := rel.at hδ
    exact ⟨.ref a, hσ, a, _, 1, .ref c, rfl, rfl, SqL.of e1, rfl, _, _, rfl, .inl ⟨_, SqL.of e3, by simp⟩, k _ H G _ δ hw (Same.refl _) rel (Dn.int _)⟩
theorem dp_ints {K : PySem.W.Frag} {H : Hp} {a : Addr} {xs : List Int} (h : H a = some (.lst (xs.map V.int))) : Dp K H (.ref a) (.list (xs.map PyData.int)) :=
  .lst (SqL.of h) (by
    induction xs with
    | nil => exact .nil
    | cons x xs ih => exact .cons (.int _) (by
        clear h
        clear ih
        induction xs with
        | nil => exact .nil
        | cons x xs ih => exact .cons (.int _) ih))
theorem canLay_ints : ∀ xs : List Int, PyData.canLayAll0 (xs.map PyData.int) = true
  | [] => by simp [PyData.canLayAll0]
  | x :: xs => by simp [PyData.canLayAll0, PyData.canLay0, canLay_ints xs]
theorem depth_ints : ∀ xs : List Int, PyData.depthAll (xs.map PyData.int) = 0
  | [] => by simp [PyData.depthAll]
  | x :: xs => by simp [PyData.depthAll, PyData.depth, depth_ints xs]
theorem shaped_ints (xs : List Int) : SeqAt.shaped (.list (xs.map PyData.int)) = true := by
  simp [SeqAt.shaped, PyData.canLay0, PyData.depth, canLay_ints, depth_ints]
theorem shaped_intsT (xs : List Int) : SeqAt.shaped (.tuple (xs.map PyData.int)) = true := by
  simp [SeqAt.shaped, PyData.canLay0, PyData.depth, canLay_ints, depth_ints]
theorem eqv_nil (xs : List Int) : PyData.eqv (.list (xs.map PyData.int)) (.list []) = xs.isEmpty := by
  cases xs <;> simp [PyData.eqv, PyData.eqvAll]
theorem jt_kne (hu : X.A.units + 64 < cLine) (h : PE X (.Name x px) (tVar i)) (hm : behindInMarks .NotEq (.List [] p3) = false := by rfl) : JT X (.Compare (.Subscript (.Name x px) (.Constant (.int 0) k1 p1) p2) [.NotEq] [.List [] p3] pos) (wKne i) :=
  pt_le (pt_cmpR (op_neD hu) (pe_ix ix_list h pe_int (fun _ _ => rfl)) (pe_lst pa_nil) hm) fun pins s σ H Q I ⟨B, G, δ, R, rel, ⟨a, b, c, xs, n, ys, hδ, hw⟩, k⟩ => by
    obtain ⟨o, hσ, rfl, h1, h2, h3, e1, e2, e3⟩ := rel.at hδ
    refine ⟨.ref a, hσ, a, _, 0, .ref b, rfl, rfl, SqL.of e1, rfl, Nat.zero_le _, fun p np => ?_⟩
    have hb : (upd H p (.lst [])) b = some (.lst (xs.map V.int)) := by rw [upd_ne (ne_of_none e2 np)]; exact e2
    refine ⟨_, .list [], dp_ints hb, .lst (SqL.of upd_same) .nil, shaped_ints xs, by decide, _, rfl, ?_⟩
    rw [eqv_nil]
    exact k _ _ G δ hw (Same.refl _) (rel.grow np)
theorem js_put00 {e : Expr} {w : DE} {pt : Pos} (h : PE X (.Name x px) (tVar i)) (he : JE X e w) (hs : swapsWithSole [.Subscript (.Subscript (.Name x px) (.Constant (.int 0) k1 p1) p2) (.Constant (.int 0) k2 p3) pt] e pos.line X.env = pure false := by rfl) (hw : swappedStores [.Subscript (.Subscript (.Name x px) (.Constant (.int 0) k1 p1) p2) (.Constant (.int 0) k2 p3) pt] e X.env = pure none := by rfl) :
    JS X (.Assign [.Subscript (.Subscript (.Name x px) (.Constant (.int 0) k1 p1) p2) (.Constant (.int 0) k2 p3) pt] e pos) (wPut00 i w) :=
  ps_le (ps_asg he (pg_sub (pe_ix ix_list h pe_int (fun _ _ => rfl)) pe_int set_list) hs hw) fun pins s σ H D I ⟨B, G, δ, E, rel, hw, k⟩ => ⟨B, G, δ, _, rel, hw, fun v H1 G1 o δ1 r1 s1 rel1 ok1 => by
    obtain ⟨d, ⟨j, a, b, c, x, xs, n, ys, rfl, hδ1, q⟩, bd⟩ := use_ok rel1 ok1 r1
    obtain ⟨o', hσ, rfl, h1, h2, h3, e1, e2, e3⟩ := rel1.at hδ1
    obtain rfl := bor_int bd
    refine ⟨.ref a, hσ, a, _, 0, .ref b, rfl, rfl, SqL.of e1, rfl, b, _, 0, 0, rfl, rfl, e2, by simp [ixN], ?_⟩
    exact k.nx _ _ G1 _ q s1 (rel1.put hδ1 hσ (by simp [Cell.fp]) rfl ⟨rfl, h1, h2, h3, by rw [upd_ne h1]; exact e1, by rw [upd_same]; rfl, by rw [upd_ne h3.symm]; exact e3⟩)⟩
theorem js_put2 {e : Expr} {w : DE} {pt : Pos} (h : PE X (.Name x px) (tVar i)) (he : JE X e w) (hs : swapsWithSole [.Subscript (.Name x px) (.Constant (.int 2) k1 p1) pt] e pos.line X.env = pure false := by rfl) (hw : swappedStores [.Subscript (.Name x px) (.Constant (.int 2) k1 p1) pt] e X.env = pure none := by rfl) :
    JS X (.Assign [.Subscript (.Name x px) (.Constant (.int 2) k1 p1) pt] e pos) (wPut2 i w) :=
  ps_le (ps_asg he (pg_sub h pe_int set_list) hs hw) fun pins s σ H D I ⟨B, G, δ, E, rel, hw, k⟩ => ⟨B, G, δ, _, rel, hw, fun v H1 G1 o δ1 r1 s1 rel1 ok1 => by
    obtain ⟨d, ⟨j, a, b, c, xs, n, ys, rfl, hδ1, q⟩, bd⟩ := use_ok rel1 ok1 r1
    obtain ⟨o', hσ, rfl, h1, h2, h3, e1, e2, e3⟩ := rel1.at hδ1
    obtain rfl := bor_int bd
    refine ⟨.ref a, hσ, a, _, 2, 2, rfl, rfl, e1, by simp [ixN], ?_⟩
    exact k.nx _ _ G1 _ q s1 (rel1.put hδ1 hσ (by simp [Cell.fp]) rfl ⟨rfl, h1, h2, h3, by rw [upd_same]; rfl, by rw [upd_ne h1.symm]; exact e2, by rw [upd_ne h2.symm]; exact e3⟩)⟩
theorem js_pop0 {apos cpos : Pos} (h : PE X (.Name x px) (tVar i)) (hs : swapsWith (.Call (.Attribute (.Subscript (.Name x px) (.Constant (.int 0) k1 p1) p2) "pop" apos) [.Constant (.int 0) k2 p3] [] cpos) none pos.line X.env = pure false := by rfl)
    (hb : PE X (.Call (.Attribute (.Subscript (.Name x px) (.Constant (.int 0) k1 p1) p2) "pop" apos) [.Constant (.int 0) k2 p3] [] cpos) (tBM X.K "list" rPopAt (tOp (rIxL X.K) (tVar i) (tC (.int 0))) (tCons (tC (.int 0)) tNil))) :
    JS X (.Expr (.Call (.Attribute (.Subscript (.Name x px) (.Constant (.int 0) k1 p1) p2) "pop" apos) [.Constant (.int 0) k2 p3] [] cpos) pos) (wPop0 i) :=
  ps_le (ps_expr hb hs) fun pins s σ H D I ⟨B, G, δ, E, rel, ⟨a, b, c, x, xs, n, ys, hδ, hw⟩, k⟩ => by
    obtain ⟨o', hσ, rfl, h1, h2, h3, e1, e2, e3⟩ := rel.at hδ
    refine ⟨.ref a, hσ, a, _, 0, .ref b, rfl, rfl, SqL.of e1, rfl, .inl ⟨rfl, _, SqL.of e2⟩, b, _, 0, 0, .int x, rfl, rfl, e2, by decide, by decide, by simp [seqIndex?], rfl, ?_⟩
    exact k.nx _ _ G _ hw (Same.refl _) (rel.put hδ hσ (by simp [Cell.fp]) rfl ⟨rfl, h1, h2, h3, by rw [upd_ne h1]; exact e1, by rw [upd_same]; rfl, by rw [upd_ne h3.symm]; exact e3⟩)
end
end DL
set_option Elab.async false
set_option linter.all false
set_option maxRecDepth 100000
set_option maxHeartbeats 4000000
namespace DL
open PySem PySem.Spec PyProof.Rows L2
variable [Tb]

theorem ixN_nn {n : Nat} {j : Int} (h0 : 0 ≤ j) (h1 : j < n) : ixN n j = some j.toNat := by
  unfold ixN
  simp [h0, h1]
theorem atI_nn {α : Type} {xs : List α} {j : Int} (h0 : 0 ≤ j) (h1 : j < xs.length) : atI xs j = xs[j.toNat]? := by
  unfold atI; rw [ixN_nn h0 h1]; rfl
theorem atI_ex {α : Type} {xs : List α} {j : Int} (h0 : 0 ≤ j) (h1 : j < xs.length) : ∃ z, z ∈ xs ∧ atI xs j = some z := by
  rw [atI_nn h0 h1]
  have h : j.toNat < xs.length := by omega
  exact ⟨xs[j.toNat], List.getElem_mem h, List.getElem?_eq_getElem h⟩
omit [Tb] in
@[simp] theorem atI_ofNat {α : Type} (xs : List α) (j : Nat) : atI xs (j : Int) = xs[j]? := by
  by_cases h : j < xs.length
  · rw [atI_nn (by omega) (by omega)]; simp
  · unfold atI
    have : ixN xs.length (j : Int) = none := by unfold ixN; simp; omega
    rw [this, List.getElem?_eq_none (by omega)]; rfl

omit [Tb] in
@[simp] theorem atI_0 {α : Type} (xs : List α) : atI xs 0 = xs[0]? := by
  have := atI_ofNat xs 0; simpa using this
omit [Tb] in
@[simp] theorem atI_1 {α : Type} (xs : List α) : atI xs 1 = xs[1]? := by
  have := atI_ofNat xs 1; simpa using this
omit [Tb] in
@[simp] theorem atI_lit {α : Type} (xs : List α) (n : Nat) : atI xs (no_index (OfNat.ofNat n : Int)) = xs[n]? := atI_ofNat xs n
omit [Tb] in
@[simp] theorem atI_m1 {α : Type} (xs : List α) : atI xs (-1) = xs.getLast? := by
  rw [List.getLast?_eq_getElem?]
  cases xs with
  | nil => rfl
  | cons x xs =>
    unfold atI ixN
    have h1 : ¬ (0 : Int) ≤ -1 := by omega
    have h2 : -(((x :: xs).length : Nat) : Int) ≤ -1 := by simp; omega
    rw [if_neg h1, if_pos h2]
    have : (-1 + (((x :: xs).length : Nat) : Int)).toNat = (x :: xs).length - 1 := by simp; omega
    rw [this]; rfl
/-- a number that isn't negative and below -/
def spDraw : DSp := fun cs R => ∃ a b c m, cs = [.dk a b c, .d (.int m)] ∧ 0 < m ∧ m.natAbs.log2 < 9000 ∧ ∀ r, 0 ≤ r → r < m → R (.int r) [.dk a b c, .d (.int m)]
def wDrawA : DTS := wSeq (wSet 2 (mE (wK00 0))) (wSeq (wPut00 0 (wOp pDiv (wVar 2) (wVar 1))) (wSeq (wIf (wB (wOp pEq (wK00 0) (wC (.int 0)))) (wPop0 0) wNext) (wRet (wOp pMod (wFn pInt (wCons (wVar 2) wNil)) (wVar 1)))))
def wDrawB : DTS := wSeq (wPut2 0 (wOp pAdd (wK2 0) (wC (.int 1)))) (wSeq (wSet 3 (mE (wK1 0 (wOp pMod (wFn pInt (wCons (wK2 0) wNil)) (wKlen 0)))))
  (wSeq (wSet 4 (mE (wOp pMod (wFn pInt (wCons (wOp pAdd (wOp pMod (wFn pInt (wCons (wVar 3) wNil)) (wC (.int 4294966477))) (wOp pMul (wC (.int 1640531513)) (wK2 0))) wNil)) (wC (.int 4294966477)))))
  (wSeq (wSet 4 (mE (wOp pMod (wFn pInt (wCons (wOp pAdd (wOp pMul (wVar 4) (wVar 4)) (wOp pMul (wC (.int 86028121)) (wK2 0))) wNil)) (wC (.int 4294966427)))))
  (wRet (wOp pMod (wOp pDiv (wOp pMod (wFn pInt (wCons (wOp pMul (wVar 4) (wVar 4)) wNil)) (wC (.int 4294966373))) (wC (.int 1024))) (wVar 1))))))
def wDraw : DTS := wSeq (wIf (wKne 0) wDrawA wNext) wDrawB
theorem cm_small {i j : Int} (h0 : 0 ≤ i) (h1 : i < 4294967296) : CMul i j ∨ CMulW i j := .inl (.inl ⟨by omega, by omega⟩)
theorem rd_draw {a b c : Addr} {m : Int} {xs ys : List Int} {n : Int} {E : DEnds} (hm : 0 < m) (hl : m.natAbs.log2 < 9000) (hy : ys ≠ []) (hx : ∀ x ∈ xs, 0 ≤ x)
    (k : ∀ r xs n d2 d3 d4, 0 ≤ r → r < m → (∀ x ∈ xs, (0 : Int) ≤ x) → E.rt (.int r) [.dx a b c xs n ys, .d (.int m), d2, d3, d4]) : wDraw E [.dx a b c xs n ys, .d (.int m), .em, .em, .em] := by
  unfold wDraw
  cases xs with
  | nil =>
    have hpos : 0 < ys.length := List.length_pos_iff.mpr hy
    obtain ⟨z, _, hz⟩ := atI_ex (xs := ys) (j := (n + 1) % (ys.length : Int)) (Int.emod_nonneg _ (by omega)) (Int.emod_lt_of_pos _ (by omega))
    simp [wDrawB]
    rw [hz]
    simp
    refine ⟨hpos, cm_small (by omega) (by omega), cm_small (by omega) (by omega), cm_small (by omega) (by omega), cm_small (by omega) (by omega), by decide, hm, k _ _ _ _ _ _ (Int.emod_nonneg _ (by omega)) (Int.emod_lt_of_pos _ hm) (by simp)⟩
  | cons x xs =>
    have h0 : 0 ≤ x := hx x (by simp)
    simp [wDrawA]
    refine ⟨⟨hm, hl⟩, ?_⟩
    split
    · exact ⟨hm, k _ _ _ _ _ _ (Int.emod_nonneg _ (by omega)) (Int.emod_lt_of_pos _ hm) fun y hy => hx y (by simp [hy])⟩
    · refine ⟨hm, k _ _ _ _ _ _ (Int.emod_nonneg _ (by omega)) (Int.emod_lt_of_pos _ hm) fun y hy => ?_⟩
      rcases List.mem_cons.mp hy with e | hy
      · rw [e]; exact Int.ediv_nonneg h0 (by omega)
      · exact hx y (by simp [hy])
theorem ok_draw {P : Program} {w : World} {K : PySem.W.Frag} {mg : Str → Option Value} {base : Heap} {x qual : Str} {st : Stmt} {f : Addr} {fd : FuncData} {N ps : List Str} {k : Nat} (F : Fun K x qual st f fd) (S : FnScope N ps (defScope st)) (hN : N.length = 5) (hp : ps.length = 2)
    (body : ∀ (cdv : Value) (A : Around) (outer : List Env) (s : Shared) (H : Hp) (E : XK), RoomG k (A.deeper (envOfC qual (defScope st) s.heap.objs.size f cdv)) → JSs (cxOf CX0 P w K mg base N qual (defScope st) f cdv A outer s H E).nox (defBody st) wDraw) : FnG P w K mg base CX0 (k + 1) f fd ps (liftSp K spDraw) := by
  obtain ⟨oc, od, kV, doc, pm, an, cdv, ct, osl, rfl, lk', hcd⟩ := F.ex
  refine fnG_of lk' hcd S (fun vs H Q E ⟨B, G, cs, R, rel, ⟨a, b, c, m, e, _⟩, _⟩ => by have := rel.len; subst e; simp at this; omega) fun A outer s H vs Q E hr ⟨B, G, cs, R, rel, ⟨a, b, c, m, e, hm, hl, hR⟩, kk⟩ => ?_
  subst e
  have e0 : start0 N.length [Cell.dk a b c, .d (.int m)] = [.dk a b c, .d (.int m), .em, .em, .em] := by rw [hN]; rfl
  have rel0 : Rel K B G [.dk a b c, .d (.int m), .em, .em, .em] (L2.start N vs) H := e0 ▸ rel_start rel
  obtain ⟨o, hσ, rfl, h1, h2, h3, n, xs, ys, e1, e2, e3, hy, hx⟩ := rel0.at (i := 0) rfl
  have rel1 := rel0.swap (i := 0) (c' := .dx a b c xs n ys) rfl hσ rfl ⟨rfl, h1, h2, h3, e1, e2, e3⟩
  refine ⟨_, (body cdv A outer s H E hr).nox, B, G, _, { nx := fun _ => False, rt := fun z δ => ∃ r xs n d2 d3 d4, z = .int r ∧ 0 ≤ r ∧ r < m ∧ (∀ x ∈ xs, (0 : Int) ≤ x) ∧ δ = [.dx a b c xs n ys, .d (.int m), d2, d3, d4] }, rel1, ?_, ?_⟩
  · exact rd_draw hm hl hy hx fun r xs n d2 d3 d4 q0 q1 q2 => ⟨r, xs, n, d2, d3, d4, rfl, q0, q1, q2, rfl⟩
  · refine ⟨fun _ _ _ _ h => h.elim, ?_, fun _ _ _ _ h => h.elim, fun _ _ _ _ h => h.elim⟩
    rintro v σ' H' G' z δ' ⟨r, xs', n', d2, d3, d4, rfl, q0, q1, q2, rfl⟩ sG rel' dn
    obtain ⟨o', hσ', rfl, h1', h2', h3', e1', e2', e3'⟩ := rel'.at (i := 0) rfl
    have rel2 := rel'.swap (i := 0) (c' := .dk a b c) rfl hσ' rfl ⟨rfl, h1', h2', h3', n', xs', ys, e1', e2', e3', hy, q2⟩
    exact kk v H' G' (.int r) _ (hR r q0 q1) sG (rel_end rel rel2 sG ⟨rfl, trivial⟩) dn
end DL
set_option Elab.async false
set_option linter.all false
set_option maxRecDepth 100000
set_option maxHeartbeats 4000000
namespace DL
open PySem PySem.Spec PyProof.Rows L2
variable [Tb]

theorem roomG_caller {k : Nat} (h : Room k callerA) : RoomG k callerA := ⟨h, rfl⟩
/-- what is tracked when the law begins: the script, if it isn't one of the module's own things -/
noncomputable def scrH (K : PySem.W.Frag) (a : Addr) (vs : List Value) (ns : List Int) : Hp := by
  classical
  exact fun b => if b = a ∧ K.lookup a = none then some (.frz { cls := .type "list", data := .seq vs.toArray } (.lst (ns.map V.int))) else none
section
variable {K : PySem.W.Frag} {a b : Addr} {vs : List Value} {ns : List Int}
theorem scrH_some {u : HO} (h : scrH K a vs ns b = some u) : b = a ∧ K.lookup a = none ∧ u = .frz { cls := .type "list", data := .seq vs.toArray } (.lst (ns.map V.int)) := by
  unfold scrH at h
  split at h
  · rename_i c; exact ⟨c.1, c.2, (Option.some.inj h).symm⟩
  · cases h
theorem scrH_at (h : K.lookup a = none) : scrH K a vs ns a = some (.frz { cls := .type "list", data := .seq vs.toArray } (.lst (ns.map V.int))) := by
  unfold scrH; exact if_pos ⟨rfl, h⟩
theorem scrH_off (h : ¬ (b = a ∧ K.lookup a = none)) : scrH K a vs ns b = none := by
  unfold scrH; exact if_neg h
end
/-- how the modules stand when the law is called -/
structure Began (K : PySem.W.Frag) (mg : Str → Option Value) (h : Heap) : Prop where
  code : K.In h
  own : h.Ns mainGlobals mg
  given : ∃ mb, h.Ns builtinsNs mb ∧ ∀ x : Str, x ≠ "__name__" → mb x = bootBuiltins x
  free : h.NoLimit
/-- the script lies at a -/
structure Script (h : Heap) (a : Addr) (vs : List Value) (ns : List Int) : Prop where
  at_a : h.get? a = some { cls := .type "list", data := .seq vs.toArray }
  nums : IntsAre vs ns
  fits : ns.length ≤ sizeLine
/-- a function of one parameter is given, and keeps the promise over every base -/
abbrev OneArg (P : Program) (w : World) (K : PySem.W.Frag) (mg : Str → Option Value) (k : Nat) (fa : Addr) (x : Str) (sp : Sp) (fd : FuncData) : Prop :=
  (∀ (s : Shared) (u : Value), BindsTo s fd ⟨[u], []⟩ [(x, u)]) ∧ ∀ base : Heap, K.In base → base.Ns mainGlobals mg → FnG P w K mg base CX0 k fa fd [x] sp
/-- on this script the promise asks nothing, and tells True -/
abbrev TrueOn (K : PySem.W.Frag) (sp : Sp) (a : Addr) (ns : List Int) : Prop :=
  ∀ H : Hp, L2.Only H → SqL K H a (ns.map V.int) → sp [.ref a] H (fun v _ => v = .bl true) fun _ _ _ => False
theorem lawG {P : Program} {w : World} {K : PySem.W.Frag} {mg : Str → Option Value} {k : Nat} {fa a : Addr} {fd : FuncData} {x : Str} {sp : Sp} {s₁ : Shared} {vs : List Value} {ns : List Int}
    (B : Began K mg s₁.heap) (hg : s₁.gens = #[]) (S : Script s₁.heap a vs ns) (hr : Room k callerA) (F : OneArg P w K mg k fa x sp fd) (hsp : TrueOn K sp a ns) :
    codeAny (model P w) callerA (.call (.ref fa) ⟨[.ref a], []⟩) (fun r z => r = .ok (.ret (.bool true)) ∧ OldK s₁.heap z.heap ∧ z.os = s₁.os ∧ AllBare z.gens) s₁ := by
  obtain ⟨KX, hns, ⟨mb, hb, hbb⟩, hlim⟩ := B
  obtain ⟨ha, hi, hl⟩ := S
  obtain ⟨hbind, F⟩ := F
  have rv := vals_ints hi
  let T : Hp := scrH K a vs ns
  have only : L2.Only T := fun b => by
    cases q : T b with
    | none => exact .inl rfl
    | some u => obtain ⟨_, _, e⟩ := scrH_some q; exact .inr ⟨_, _, by rw [e]⟩
  have reads : SqL K T a (ns.map V.int) := by
    cases hk : K.lookup a with
    | none => exact .inl (.inr ⟨_, scrH_at hk⟩)
    | some o =>
      have e := KX a o hk
      rw [ha] at e
      cases e
      exact .inr ⟨_, vs.toArray, _, hk, rfl, rfl, rfl, by rw [List.size_toArray, hi.length]; exact hl, by simpa using rv⟩
  have hok : HOk P w T s₁.heap := fun b u q => by
    obtain ⟨rfl, _, rfl⟩ := scrH_some q
    exact ⟨ha, (List.length_map (as := ns) V.int).symm ▸ hl, vs, _, rv, ha⟩
  have free : ∀ {b : Addr} {o : Obj}, s₁.heap.get? b = some o → (∀ vs n, o.data ≠ .seq vs n) → T b = none := fun {b o} e d => by
    cases q : T b with
    | none => rfl
    | some u =>
      obtain ⟨rfl, _, _⟩ := scrH_some q
      rw [ha] at e
      cases e
      exact absurd rfl (d _ _)
  have names : ∀ {b : Addr} {m : Str → Option Value}, s₁.heap.Ns b m → (hidT s₁.heap T).Ns b m := fun {b m} ⟨o, es, ep, e, d, r⟩ =>
    ⟨o, es, ep, hidT_get e (free e fun _ _ z => by rw [d] at z; cases z), d, r⟩
  have kIn : K.In (hidT s₁.heap T) := fun b o e => hidT_get (KX b o e) (scrH_off fun ⟨h1, h2⟩ => by rw [h1, h2] at e; cases e)
  have md : Mod K mg (hidT s₁.heap T) := ⟨kIn, names hns, ⟨mb, names hb, hbb⟩, let ⟨mc, h1, h2⟩ := hlim; ⟨mc, names h1, h2⟩⟩
  have env : Env0 P w K mg (hidT s₁.heap T) callerA [] s₁ T :=
    { frames := rfl, mod := md, bs := fun b o e => of_hidT e, bsz := Nat.le_of_eq (hidT_size _ _), funs := trivial, frf := fun b hb => (nomatch (show b ∈ ([] : List Addr) from hb)), hok := hok, bare := .of_eq hg }
  have run := (F _ kIn (names hns)).run callerA [] s₁ T ⟨[.ref a], []⟩ [.ref a] [.ref a] _ _ (roomG_caller hr) env (hbind s₁ (.ref a)) (.cons rfl .nil) (hsp T only reads)
  have back : ∀ {H' : Hp} {z : Shared}, Un (frs []) [] T H' s₁.heap z.heap → HOk P w H' z.heap → OldK s₁.heap z.heap := fun un ok => OldK.of_keep fun b o e => by
    cases q : T b with
    | none => exact un.keep b o e q (List.not_mem_nil) (by simp)
    | some t =>
      obtain ⟨rfl, _, rfl⟩ := scrH_some q
      exact (ok b _ (un.frzs b _ _ q)).1.trans (ha.symm.trans e)
  refine codeAny_mono run ?_
  rintro (e | _ | _ | _ | u) z h <;> try exact False.elim h
  obtain ⟨v, H', os, bare, un, ok, rv', rfl⟩ := h
  cases (show u = Value.bool true from rv')
  exact ⟨rfl, back un ok, os, bare⟩
theorem walkG {l : PySem.W.OpenLaw} {n k : Nat} {q : Program} {loose : List Str} {XP : (Str → Option Value) → Heap → Prop} {YP : World → Heap → Prop} {d : DefRec} {K : Params → PySem.W.Frag} {sp : PySem.W.Frag → Sp} {x : Str}
    (most : l.most = some n) (fits : n ≤ sizeLine) (plain : d.params.defaults = []) (room : Room k callerA) (code : ∀ (w : World) (h : Heap), YP w h → (K w.params).In h)
    (law : ∀ (w : World) (mg : Str → Option Value) (fa : Addr) (h : Heap), (K w.params).In h → h.Ns mainGlobals mg → mg d.name = some (.ref fa) → ∃ fd : FuncData, OneArg l.prog w (K w.params) mg k fa x (sp (K w.params)) fd)
    (true' : ∀ (K : PySem.W.Frag) (H : Hp) (a : Addr) (ns : List Int), ns.length ≤ n → L2.Only H → SqL K H a (ns.map V.int) → sp K [.ref a] H (fun v _ => v = .bl true) fun _ _ _ => False) : PySem.W.WalkO q loose XP YP l.row.toRowW d [] (fun f vs => PySem.call f vs) :=
  Att.attach_call most plain fun w _ s₁ mg mb fa _ _ _ _ a vs ns G Y _ _ _ at_law at_a are few calm =>
    have KX := code w _ Y
    let ⟨_, F⟩ := law w mg fa _ KX G.T.g at_law
    lawG ⟨KX, G.T.g, ⟨mb, G.T.b, G.T.builtins⟩, G.T.nolimit⟩ calm ⟨at_a, are, Nat.le_trans few fits⟩ room F fun H only reads => true' _ H a ns few only reads
/-- the law over data: from the script, True -/
def spLaw : DSp := fun cs R => ∃ a ns, cs = [.scr a ns] ∧ ∀ cs', R (.bool true) cs'
theorem law_start {K : PySem.W.Frag} {H : Hp} {a : Addr} {ns : List Int} (h : SqL K H a (ns.map V.int)) (hT : LamX.Tabs Tb.T H := by intro p hp; cases hp) : liftSp K spLaw [.ref a] H (fun v _ => v = .bl true) fun _ _ _ => False := by
  refine ⟨fun _ => none, H, [.scr a ns], fun x _ => x = .bool true, ?_, ⟨a, ns, rfl, fun _ => rfl⟩, ?_⟩
  · refine ⟨rfl, Same.refl _, fun a o e => (by cases e), fun a => .inr rfl, fun i c o e1 e2 => ?_, fun i j c c' a e1 e2 m1 m2 => ?_, fun i c a e m => ?_, hT⟩
    · cases i with
      | zero => simp at e1 e2; subst e1 e2; exact ⟨rfl, h⟩
      | succ i => simp at e1
    · cases i with
      | zero => simp at e1; subst e1; cases m1
      | succ i => simp at e1
    · cases i with
      | zero => simp at e; subst e; cases m
      | succ i => simp at e
  · rintro v H' G' x cs' rfl _ _ dn
    exact dn_bool dn
end DL
set_option Elab.async false
set_option linter.all false
set_option maxRecDepth 100000
set_option maxHeartbeats 4000000
namespace DL
open PySem PySem.Spec PyProof.Rows L2
variable [Tb]

section
variable {X : Cx} {x : Str} {pos : Pos} {e : Expr} {es : List Expr}
theorem jpv (i : Nat) (hN : X.N[i]? = some x := by rfl) (hv : Vis X.env.scope x := by first | exact .inl rfl | exact .inr (.inl rfl) | exact .inr (.inr rfl)) (hd : (x == ("__debug__" : Str)) = false := by decide) (hcd : (x == ("__classdict__" : Str)) = false := by decide) : PE X (.Name x pos) (tVar i) := pe_var hN hv hd hcd
theorem jv (i : Nat) (hN : X.N[i]? = some x := by rfl) (hv : Vis X.env.scope x := by first | exact .inl rfl | exact .inr (.inl rfl) | exact .inr (.inr rfl)) (hd : (x == ("__debug__" : Str)) = false := by decide) (hcd : (x == ("__classdict__" : Str)) = false := by decide) : JE X (.Name x pos) (wVar i) := je_var (pe_var hN hv hd hcd)
theorem jgn (i : Nat) (nd : X.N.Nodup) (hN : X.N[i]? = some x := by rfl) (hx : Loc X.env.scope x := by first | exact .inl rfl | exact .inr rfl) (hf : X.fn x = true ∨ X.env.scope.names.lookup x = some .local := by first | exact .inl rfl | exact .inr rfl) : JG X (.Name x pos) [i] (gN i) := jg_name nd hN hx hf
theorem jset (i : Nat) {w : DM} {pos' : Pos} (nd : X.N.Nodup) (he : JM X e w) (hi : X.N[i]? = some x := by rfl) (hx : Loc X.env.scope x := by first | exact .inl rfl | exact .inr rfl) (hs : swapsWith e (some (.Name x pos')) pos.line X.env = pure false := by rfl) (hf : X.fn x = true ∨ X.env.scope.names.lookup x = some .local := by first | exact .inl rfl | exact .inr rfl) :
    JS X (.Assign [.Name x pos'] e pos) (wSet i w) := js_set nd hi hx he hs hf
theorem jaug (i : Nat) {w : DE} {op : Operator} {p : P2} {pos' : Pos} (nd : X.N.Nodup) (he : JE X e w) (ho : OpD X (inplaceOp op) p) (hi : X.N[i]? = some x := by rfl) (hx : Loc X.env.scope x := by first | exact .inl rfl | exact .inr rfl) (hf : X.fn x = true ∨ X.env.scope.names.lookup x = some .local := by first | exact .inl rfl | exact .inr rfl) :
    JS X (.AugAssign (.Name x pos') op e pos) (wAug i p w) := js_aug nd hi hx he ho hf
theorem jpar {i j : Nat} {x y : Str} {a b : Expr} {w : DMs} {px py pt : Pos} {kt k2 pt2} (hc : X.calm = true) (hN : X.N.Nodup) (hi : X.N[i]? = some x) (hj : X.N[j]? = some y) (hij : i ≠ j) (ha : JMs X [a, b] w) (hx : X.env.scope.names.lookup x = some .local := by rfl) (hy : X.env.scope.names.lookup y = some .local := by rfl) 
    (hw : swappedStores [.Tuple [.Name x px, .Name y py] kt pt] (.Tuple [a, b] k2 pt2) X.env = pure (some [x, y]) := by rfl) (hs : swapsWithSole [.Tuple [.Name x px, .Name y py] kt pt] (.Tuple [a, b] k2 pt2) pos.line X.env = pure false := by rfl) :
    JS X (.Assign [.Tuple [.Name x px, .Name y py] kt pt] (.Tuple [a, b] k2 pt2) pos) (wPar2 i j w) := js_par2 hc hN hi hj hij hx hy ha hw hs
def pIAdd : P2 := fun x y R => match x, y with
  | .int i, .int j => R (.int (i + j))
  | .str a, .str b => a.length + b.length ≤ 1000000 ∧ R (.str (a ++ b))
  | _, _ => False
def pISub : P2 := ints2 fun i j R => R (.int (i - j))
def pIMul : P2 := ints2 fun i j R => CMul i j ∧ R (.int (i * j))
def pIDiv : P2 := ints2 fun i j R => CDiv i j ∧ R (.int (i / j))
def pIMod : P2 := ints2 fun i j R => 0 < j ∧ R (.int (i % j))
omit [Tb] in
@[simp] theorem pIAdd_ii (i j : Int) (R : PyData → Prop) : pIAdd (.int i) (.int j) R = R (.int (i + j)) := rfl
omit [Tb] in
@[simp] theorem pIAdd_ss (a b : Str) (R : PyData → Prop) : pIAdd (.str a) (.str b) R = (a.length + b.length ≤ 1000000 ∧ R (.str (a ++ b))) := rfl
omit [Tb] in
@[simp] theorem pISub_ii (i j : Int) (R : PyData → Prop) : pISub (.int i) (.int j) R = R (.int (i - j)) := rfl
omit [Tb] in
@[simp] theorem pIMul_ii (i j : Int) (R : PyData → Prop) : pIMul (.int i) (.int j) R = (CMul i j ∧ R (.int (i * j))) := rfl
omit [Tb] in
@[simp] theorem pIDiv_ii (i j : Int) (R : PyData → Prop) : pIDiv (.int i) (.int j) R = (CDiv i j ∧ R (.int (i / j))) := rfl
omit [Tb] in
@[simp] theorem pIMod_ii (i j : Int) (R : PyData → Prop) : pIMod (.int i) (.int j) R = (0 < j ∧ R (.int (i % j))) := rfl
theorem d_iadd : OpD X (inplaceOp .Add) pIAdd := by
  intro pins s σ H x y v u Q I rx ry ⟨B, G, δ, σ', dx, dy, R, rel, bx, by', q, k⟩
  cases dx <;> cases dy <;> first | exact False.elim q | skip
  · exact iop_add pins s σ H x y v u Q I rx ry ⟨_, _, bor_int bx, bor_int by', k _ H G _ q (Same.refl _) rel (Dn.int _)⟩
  · exact iop_add_str pins s σ H x y v u Q I rx ry ⟨_, _, bor_str bx, bor_str by', million q.1, k _ H G _ q.2 (Same.refl _) rel (Dn.str _)⟩
theorem d_isub : OpD X (inplaceOp .Sub) pISub := opd_ints0 iop_sub
end
end DL
set_option Elab.async false
set_option linter.all false
set_option maxRecDepth 100000
set_option maxHeartbeats 4000000
namespace DL
open PySem PySem.Spec PyProof.Rows L2
variable [Tb]

variable {g : DTG} {t : DT} {e : DE} {vs : List Nat} {xs : List PyData} {δ : DS}
theorem com_map {α : Type} {R : List PyData → DS → Prop} {u : Stop R} (as : List α) (d : α → PyData) (hx : xs = as.map d) (f : α → Option PyData)
    (hs : ∀ a ∈ as, ∀ (acc : List PyData) (K : List PyData → DS → Prop), K (acc ++ (f a).toList) δ → g (d a) δ fun δ1 => t δ1 fun b δ2 => if b = true then e δ2 fun o δ3 => lk o δ3 fun y δ4 => K (acc ++ [y]) (wipeD δ4 vs) else K acc (wipeD δ2 vs)) (k : R (as.filterMap f) δ) : comC g t e vs xs [] δ R u := by
  subst hx
  refine com_inv (fun ys acc δ' => δ' = δ ∧ ∃ bs : List α, ys = bs.map d ∧ (∀ x ∈ bs, x ∈ as) ∧ acc ++ bs.filterMap f = as.filterMap f) ⟨rfl, as, rfl, fun _ h => h, rfl⟩ ?_ ?_
  · rintro acc δ' ⟨rfl, bs, hb, _, h⟩
    have : bs = [] := by cases bs with
      | nil => rfl
      | cons => cases hb
    subst this
    have h' : acc = as.filterMap f := by simpa using h
    rw [h']; exact k
  · rintro x ys acc δ' ⟨rfl, bs, hb, hm, h⟩ K hK
    cases bs with
    | nil => cases hb
    | cons a bs =>
      simp only [List.map_cons, List.cons.injEq] at hb
      obtain ⟨rfl, rfl⟩ := hb
      refine hs a (hm a (List.mem_cons_self ..)) acc K (hK _ _ ⟨rfl, bs, rfl, fun y hy => hm y (List.mem_cons_of_mem _ hy), ?_⟩)
      rw [← h, List.filterMap_cons]
      cases f a <;> simp
theorem cutD_take {α : Type} (xs : List α) (n : Nat) : cutD xs none (some (n : Int)) = xs.take n := by
  unfold cutD
  rw [HT.sIx_none, HT.sIx_nat]
  simp only [List.drop_zero, Nat.sub_zero]
  by_cases h : n ≤ xs.length
  · rw [Nat.min_eq_left h]
  · rw [Nat.min_eq_right (by omega), List.take_of_length_le (by omega), List.take_of_length_le (by omega)]
theorem for_map {α : Type} {b : DTS} {E : DEnds} {u : Stop E} (as : List α) (d : α → PyData) (hx : xs = as.map d) (P : List α → DS → Prop) (Q : DS → Prop) (Z : PyData → DS → Prop) (h : P as δ) (h0 : ∀ δ, P [] δ → E.nx δ) (hq : ∀ δ, Q δ → E.nx δ) (hz : ∀ x δ, Z x δ → E.rt x δ)
    (hs : ∀ a bs δ, P (a :: bs) δ → ∀ (K B : DS → Prop) (T : PyData → DS → Prop), (∀ δ', P bs δ' → K δ') → (∀ δ', Q δ' → B δ') → (∀ x δ', Z x δ' → T x δ') → g (d a) δ fun δ1 => b { nx := K, rt := T, bk := B, ct := K } δ1) : forC g b xs δ E u := by
  subst hx
  refine for_inv (fun ys δ' => ∃ bs : List α, ys = bs.map d ∧ P bs δ') Q Z ⟨as, rfl, h⟩ ?_ hq hz ?_
  · rintro δ ⟨bs, hb, p⟩
    cases bs with
    | nil => exact h0 δ p
    | cons => cases hb
  · rintro x ys δ ⟨bs, hb, p⟩ K B T hK hB hT
    cases bs with
    | nil => cases hb
    | cons a bs =>
      simp only [List.map_cons, List.cons.injEq] at hb
      obtain ⟨rfl, rfl⟩ := hb
      exact hs a bs δ p K B T (fun δ' p' => hK δ' ⟨bs, rfl, p'⟩) hB hT
/-- a loop without break and return -/
theorem for_plain {α : Type} {b : DTS} {E : DEnds} {u : Stop E} (as : List α) (d : α → PyData) (hx : xs = as.map d) (P : List α → DS → Prop) (h : P as δ) (h0 : ∀ δ, P [] δ → E.nx δ)
    (hs : ∀ a bs δ, P (a :: bs) δ → ∀ (K B : DS → Prop) (T : PyData → DS → Prop), (∀ δ', P bs δ' → K δ') → g (d a) δ fun δ1 => b { nx := K, rt := T, bk := B, ct := K } δ1) : forC g b xs δ E u :=
  for_map as d hx P (fun _ => False) (fun _ _ => False) h h0 (fun _ h => h.elim) (fun _ _ h => h.elim) fun a bs δ p K B T hK _ _ => hs a bs δ p K B T hK
theorem nums_map (lo : Int) (n : Nat) : nums lo n = (List.range n).map fun (i : Nat) => PyData.int (lo + (i : Int)) := rfl
theorem nums_0 (n : Nat) : nums 0 n = (List.range n).map fun (i : Nat) => PyData.int (i : Int) := by simp [nums]
theorem log_lt {m : Int} {k : Nat} (h0 : 0 < m) (h1 : m < 2 ^ k) : m.natAbs.log2 < k := by
  have : m.natAbs < 2 ^ k := by
    have e : (m.natAbs : Int) = m := Int.natAbs_of_nonneg (by omega)
    have h2 : ((m.natAbs : Nat) : Int) < ((2 ^ k : Nat) : Int) := by rw [e]; simpa using h1
    exact Int.ofNat_lt.mp h2
  exact (Nat.log2_lt (by omega)).mpr this
theorem ask_of {sp : DSp} {cs : List Cell} {K : PyData → List Cell → Prop} {u : Stop K} (h : sp cs K) : ask sp cs K u := h
theorem cm_l {i j : Int} (h : -(2 ^ 64) < i ∧ i < 2 ^ 64) : CMul i j ∨ CMulW i j := .inl (.inl h)
theorem cm_r {i j : Int} (h : -(2 ^ 64) < j ∧ j < 2 ^ 64) : CMul i j ∨ CMulW i j := .inl (.inr h)
/-- a draw -/
theorem ask_draw {a b c : Addr} {m : Int} {K : PyData → List Cell → Prop} {u : Stop K} (h0 : 0 < m) (h1 : m < 2 ^ 64) (k : ∀ r, 0 ≤ r → r < m → K (.int r) [.dk a b c, .d (.int m)]) : ask spDraw [.dk a b c, .d (.int m)] K u :=
  ⟨a, b, c, m, rfl, h0, Nat.lt_trans (log_lt h0 h1) (by decide), k⟩
/-- the deck is made -/
theorem ask_deck {a : Addr} {ns : List Int} {K : Cell → List Cell → Prop} {u : Stop K} (k : ∀ p q r, K (.dk p q r) [.scr a ns]) : askM spDeck [.scr a ns] K u := ⟨a, ns, rfl, k⟩
end DL
set_option Elab.async false
set_option linter.all false
set_option maxRecDepth 100000
set_option maxHeartbeats 4000000
namespace DL
open PySem PySem.Spec PyProof.Rows L2
variable [Tb]

/-- ints of less than B bits, sequences of at most L items, n deep -/
def Sml (B L : Nat) : Nat → PyData → Prop
  | _, .none => True
  | _, .bool _ => True
  | _, .int i => i.natAbs.log2 < B
  | n + 1, .list xs => xs.length ≤ L ∧ ∀ x ∈ xs, Sml B L n x
  | n + 1, .tuple xs => xs.length ≤ L ∧ ∀ x ∈ xs, Sml B L n x
  | _, _ => False
theorem all_of {P : PyData → Bool} {F : List PyData → Bool} (h0 : F [] = true) (h1 : ∀ x xs, F (x :: xs) = (P x && F xs)) : ∀ xs : List PyData, (∀ x ∈ xs, P x = true) → F xs = true
  | [], _ => h0
  | x :: xs, h => by rw [h1, h x (List.mem_cons_self ..), all_of h0 h1 xs fun y hy => h y (List.mem_cons_of_mem _ hy)]; rfl
theorem depthAll_le {n : Nat} : ∀ xs : List PyData, (∀ x ∈ xs, x.depth ≤ n) → PyData.depthAll xs ≤ n
  | [], _ => by simp [PyData.depthAll]
  | x :: xs, h => by
    simp only [PyData.depthAll]
    have h1 := h x (List.mem_cons_self ..)
    have h2 := depthAll_le xs fun y hy => h y (List.mem_cons_of_mem _ hy)
    omega
theorem shownAll_map : ∀ xs : List PyData, PyData.shownAll xs = xs.map PyData.shown
  | [] => by simp [PyData.shownAll]
  | x :: xs => by simp [PyData.shownAll, shownAll_map xs]
theorem log_abs {i : Int} {B : Nat} (hB : 0 < B) (h0 : -(2 ^ B) < i) (h1 : i < 2 ^ B) : i.natAbs.log2 < B := by
  by_cases z : i = 0
  · subst z; simpa using hB
  · have e : ((2 ^ B : Nat) : Int) = 2 ^ B := by simp
    have : i.natAbs < 2 ^ B := by omega
    exact (Nat.log2_lt (by omega)).mpr this
omit [Tb] in
@[simp] theorem sml_int (B L n : Nat) (i : Int) : Sml B L n (.int i) = (i.natAbs.log2 < B) := by cases n <;> rfl
omit [Tb] in
@[simp] theorem sml_none (B L n : Nat) : Sml B L n .none = True := by cases n <;> rfl
omit [Tb] in
@[simp] theorem sml_bool (B L n : Nat) (b : Bool) : Sml B L n (.bool b) = True := by cases n <;> rfl
omit [Tb] in
@[simp] theorem sml_list (B L n : Nat) (xs : List PyData) : Sml B L (n + 1) (.list xs) = (xs.length ≤ L ∧ ∀ x ∈ xs, Sml B L n x) := rfl
omit [Tb] in
@[simp] theorem sml_tuple (B L n : Nat) (xs : List PyData) : Sml B L (n + 1) (.tuple xs) = (xs.length ≤ L ∧ ∀ x ∈ xs, Sml B L n x) := rfl
end DL
set_option Elab.async false
set_option linter.all false
set_option maxRecDepth 100000
set_option maxHeartbeats 4000000
namespace DL
open PySem PySem.Spec PyProof.Rows L2
variable [Tb]

def wPar3 (i j k : Nat) (w : DMs) : DTS := fun E δ => w δ fun cs δ1 => ∃ c d e, cs = [c, d, e] ∧ E.nx (((δ1.set i c).set j d).set k e)
omit [Tb] in
@[simp ↓] theorem wPar3_ap (i j k : Nat) (w : DMs) (E : DEnds) (δ : DS) : wPar3 i j k w E δ = (w δ fun cs δ1 => match cs with
  | [c, d, e] => E.nx (((δ1.set i c).set j d).set k e)
  | _ => False) := by
  unfold wPar3
  congr 1; funext cs δ1
  match cs with
  | [] => simp
  | [c] => simp
  | [c, d] => simp
  | [c, d, e] => exact propext ⟨fun ⟨c', d', e', h0, h⟩ => by cases h0; exact h, fun h => ⟨c, d, e, rfl, h⟩⟩
  | c :: d :: e :: f :: r => simp
def wAsgG (w : DE) (g : DTG) : DTS := fun E δ => w δ fun o δ1 => lk o δ1 fun x δ2 => g x δ2 E.nx
omit [Tb] in
@[simp ↓] theorem wAsgG_ap (w : DE) (g : DTG) (E : DEnds) (δ : DS) : wAsgG w g E δ = (w δ fun o δ1 => lk o δ1 fun x δ2 => g x δ2 E.nx) := rfl
section
variable {X : Cx} {pos : Pos} {e : Expr}
theorem jpar3 {i j l : Nat} {x y z : Str} {a b c : Expr} {w : DMs} {px py pz pt : Pos} {kt k2 pt2} (hc : X.calm = true) (hN : X.N.Nodup) (hi : X.N[i]? = some x) (hj : X.N[j]? = some y) (hk : X.N[l]? = some z) (hij : i ≠ j) (hik : i ≠ l) (hjk : j ≠ l) (ha : JMs X [a, b, c] w) (hx : X.env.scope.names.lookup x = some .local := by rfl) (hy : X.env.scope.names.lookup y = some .local := by rfl) (hz : X.env.scope.names.lookup z = some .local := by rfl)
    (hw : swappedStores [.Tuple [.Name x px, .Name y py, .Name z pz] kt pt] (.Tuple [a, b, c] k2 pt2) X.env = pure (some [x, y, z]) := by rfl) (hs : swapsWithSole [.Tuple [.Name x px, .Name y py, .Name z pz] kt pt] (.Tuple [a, b, c] k2 pt2) pos.line X.env = pure false := by rfl) :
    JS X (.Assign [.Tuple [.Name x px, .Name y py, .Name z pz] kt pt] (.Tuple [a, b, c] k2 pt2) pos) (wPar3 i j l w) := ps_le (ps_par3 hc hN hi hj hk hij hik hjk hx hy hz ha hw hs) fun pins s σ H D I ⟨B, G, δ, E, rel, hw, k⟩ => ⟨B, G, δ, _, rel, hw, fun vs H1 G1 cs δ1 r1 s1 rel1 hB ok1 => by
  obtain ⟨c, d, f, rfl, q⟩ := r1
  cases ok1 with
  | cons h1 d1 t1 =>
    cases t1 with
    | cons h2 d2 t2 =>
      cases t2 with
      | cons h3 d3 t3 =>
        cases t3
        rename_i v u w
        refine ⟨v, u, w, rfl, ?_⟩
        have e : fps [c, d, f] = c.fp ++ (d.fp ++ (f.fp ++ [])) := by simp [fps]
        rw [e] at rel1
        have R2 := Rel.store (i := i) rel1 (fun a m => hB a (by simp [fps, m])) (fun a m => by have := d1 a m; simpa [fps] using this) h1
        have R3 := Rel.store (i := j) R2 (fun a m => hB a (by simp [fps, m])) (fun a m => by have := d2 a m; simpa [fps] using this) h2
        have R4 := Rel.store (i := l) R3 (fun a m => hB a (by simp [fps, m])) (fun a m z => nomatch z) h3
        rw [bov_nil] at R4
        exact k.nx _ H1 G1 _ q s1 R4⟩
theorem js_asgG {tg : Expr} {w : DE} {ts : List Nat} {g : DTG} (he : JE X e w) (hg : JG X tg ts g) (hs : swapsWithSole [tg] e pos.line X.env = pure false := by rfl) (hw : swappedStores [tg] e X.env = pure none := by rfl) (h1 : (assignEach [tg] X.env).map (·.2) = [assign tg X.env] := by rfl) : JS X (.Assign [tg] e pos) (wAsgG w g) :=
  ps_le (ps_asg he hg hs hw h1) fun pins s σ H D I ⟨B, G, δ, E, rel, hw, k⟩ => ⟨B, G, δ, _, rel, hw, fun v H1 G1 o δ1 r1 s1 rel1 ok1 => by
    obtain ⟨G2, δ2, x, q, s2, rel2, dn⟩ := lk_ok rel1 ok1 r1
    exact ⟨B, G2, δ2, x, _, rel2, dn, q, fun σ' H' G' δ' r' s' rel' _ => k.nx _ _ _ _ r' (s1.trans (s2.trans s')) rel'⟩⟩
end
end DL
set_option Elab.async false
set_option linter.all false
set_option maxRecDepth 100000
set_option maxHeartbeats 4000000
namespace DL
open PySem PySem.Spec PyProof.Rows L2
variable [Tb]

/-- W m: what holds ahead of a turn, m falling; D: what holds when the loop is left; Z: what is returned from within -/
theorem while_inv {c : DT} {b : DTS} {δ : DS} {E : DEnds} {u : Stop E} (W : Nat → DS → Prop) (D : DS → Prop) (Z : PyData → DS → Prop) (m0 : Nat) (h : W m0 δ) (hd : ∀ δ, D δ → E.nx δ) (hz : ∀ x δ, Z x δ → E.rt x δ)
    (hs : ∀ m δ, W m δ → ∀ (K N : DS → Prop) (T : PyData → DS → Prop), (∀ m' δ', m' < m → W m' δ' → K δ') → (∀ δ', D δ' → N δ') → (∀ x δ', Z x δ' → T x δ') → c δ fun k δ1 => if k = true then b { nx := K, rt := T, bk := N, ct := K } δ1 else N δ1) : whileC c b δ E u :=
  ⟨W, ⟨m0, h⟩, fun m δ w => hs m δ w _ _ _ (fun m' δ' hm w' => ⟨m', hm, w'⟩) hd hz⟩
theorem while_plain {c : DT} {b : DTS} {δ : DS} {E : DEnds} {u : Stop E} (W : Nat → DS → Prop) (D : DS → Prop) (m0 : Nat) (h : W m0 δ) (hd : ∀ δ, D δ → E.nx δ)
    (hs : ∀ m δ, W m δ → ∀ (K N : DS → Prop) (T : PyData → DS → Prop), (∀ m' δ', m' < m → W m' δ' → K δ') → (∀ δ', D δ' → N δ') → c δ fun k δ1 => if k = true then b { nx := K, rt := T, bk := N, ct := K } δ1 else N δ1) : whileC c b δ E u :=
  while_inv W D (fun _ _ => False) m0 h hd (fun _ _ h => h.elim) fun m δ w K N T hK hN _ => hs m δ w K N T hK hN
theorem numbered_zip {α : Type} (d : α → PyData) : ∀ (as : List α) (n : Nat), numbered n (as.map d) = (as.zipIdx n).map fun p => .tuple [.int (p.2 : Nat), d p.1]
  | [], n => by simp [numbered]
  | a :: as, n => by simp [numbered, numbered_zip d as (n + 1)]
end DL
set_option Elab.async false
set_option linter.all false
set_option maxRecDepth 100000
set_option maxHeartbeats 4000000
namespace DL
open PySem PySem.Spec PyProof.Rows L2
variable [Tb]
section
variable {l : Addr} {its : Array Value} {n : Nat} {dd : Option Addr} {sl : Array (Option Value)} {x : Int} {u : Tok}
theorem fits63 (lo : -(2 ^ 63) ≤ x) (hi : x < 2 ^ 63) : (decide (x < -(2 ^ 63)) || decide (x ≥ 2 ^ 63)) = false := by simp; omega
/-- the tuple itself is handed back: an empty one, or once -/
theorem mul_same (lo : -(2 ^ 63) ≤ x) (hi : x < 2 ^ 63) (same : (its.isEmpty || x == 1) = true) :
    Meets (Builtin.«tuple.__mul__» ⟨[.ref l, .int x u], []⟩) (fun _ R s => s.heap.get? l = some { cls := .type "tuple", dict := dd, data := .seq its n, slots := sl } ∧ R (.ok (.ret (Value.ref l))) s) := by
  refine .of_wp fun prog w A R => ?_
  rintro ⟨hp, gs, dr, tk, os⟩ ⟨at_l, h⟩
  have fit := fits63 lo hi
  have ix := AutoSeq1.idx_int
  wp_walk using wpAny_loadPart' at_l
  all_goals simp only [fit, same, Bool.false_eq_true, ↓reduceIte]
  wp_walk using wpAny_loadPart' at_l
  all_goals (try simp only [fit, same, Bool.false_eq_true, ↓reduceIte])
  all_goals (first | (wp_walk using wpAny_loadPart' at_l; exact ⟨_, rfl, h⟩) | exact ⟨_, rfl, h⟩)
/-- no times at all: a new empty tuple -/
theorem mul_none (lo : -(2 ^ 63) ≤ x) (le : x ≤ 0) (some' : its.isEmpty = false) :
    Meets (Builtin.«tuple.__mul__» ⟨[.ref l, .int x u], []⟩) (fun _ R s => s.heap.get? l = some { cls := .type "tuple", dict := dd, data := .seq its n, slots := sl } ∧
      R (.ok (.ret (Value.ref s.heap.objs.size))) { s with heap := s.heap.push { cls := Value.type "tuple", data := Data.seq #[] }, toks := s.toks }) := by
  refine .of_wp fun prog w A R => ?_
  rintro ⟨hp, gs, dr, tk, os⟩ ⟨at_l, h⟩
  have fit := fits63 lo (Int.lt_of_le_of_lt le (by decide))
  have once : (x == 1) = false := by simp; omega
  have ix := AutoSeq1.idx_int
  wp_walk using wpAny_loadPart' at_l
  all_goals simp only [fit, once, some', Bool.or_false, Bool.false_eq_true, ↓reduceIte]
  wp_walk using wpAny_loadPart' at_l
  all_goals (try simp only [once, some', decide_eq_true le, Bool.or_false, Bool.false_eq_true, ↓reduceIte])
  all_goals (first | (wp_walk using wpAny_loadPart' at_l; exact ⟨_, rfl, h⟩) | exact ⟨_, rfl, h⟩)
end
omit [Tb] in
/-- what `t * k` asks of a tuple's own multiplication, and no more -/
theorem mul_asks {X : Cx} {s : Shared} {l : Addr} {its : Array Value} {n : Nat} {dd : Option Addr} {sl : Array (Option Value)} {k : Int} {t : Tok} {G E : Value → Shared → Prop}
    (at_l : s.heap.get? l = some { cls := .type "tuple", dict := dd, data := .seq its n, slots := sl }) {W : Shared → Value} {f : Shared → Shared}
    (own : Meets (Builtin.«tuple.__mul__» ⟨[.ref l, .int k t], []⟩) (fun _ R s => s.heap.get? l = some { cls := .type "tuple", dict := dd, data := .seq its n, slots := sl } ∧ R (.ok (.ret (W s))) (f s))) (h : G (W s) (f s)) :
    wpAny (model X.prog X.w) X.A (binaryOp .Mult (.ref l) (.int k t)) G E s := by
  have ty : s.TypeIs (.ref l) "tuple" := ⟨_, at_l, rfl⟩
  have back := int_rmul_tuple k t l its n dd sl
  exact wpAny_binaryOp_repeat_ref (by decide) ty (typeIs_int · k t) noFill_tuple_mul F.fills_int_mul F.slot_int_rmul repeat_tuple F.slot_int_index.lookup
    (call_meets F.slot_int_rmul (typeIs_int s k t) F.entry_int_rmul (F.args_int_rmul_2 _ _) back ⟨at_l, rfl, ty, call_meets F.slot_tuple_mul ty F.entry_tuple_mul (F.args_tuple_mul_2 _ _) own ⟨at_l, h⟩⟩)
/-- t * k -/
def rRepA (K : PySem.W.Frag) : R2 := fun x y H Q => ∃ l k xs, x = .ref l ∧ y = .int k ∧ SqT K H l xs ∧ -1000 ≤ k ∧ k ≤ 1000 ∧ xs.length ≤ 1000 ∧ (xs = [] ∨ k = 1 → Q (.ref l) H) ∧ (¬ (xs = [] ∨ k = 1) → ∀ p, H p = none → Q (.ref p) (upd H p (.tup (List.replicate k.toNat xs).flatten)))
section
variable {X : Cx}
theorem op_repA : OpR X (binaryOp .Mult) (rRepA X.K) := by
  rintro pins s σ H _ _ _ _ Q I rx ry ⟨l, k, xs, rfl, rfl, isT, lo, hi, short, once, else'⟩
  by_cases c : 2 ≤ k ∧ xs ≠ []
  · exact op_repT pins s σ H _ _ _ _ Q I rx ry ⟨l, k, xs, rfl, rfl, isT, c.2, c.1, hi, short, else' (fun z => z.elim c.2 (by omega))⟩
  cases rx
  obtain ⟨tok, rfl⟩ := ry
  obtain ⟨its, vals, ⟨⟨_, dd, _, sl⟩, at_l, rfl, n, rfl⟩, _⟩ := I.tuple isT
  by_cases c' : xs = [] ∨ k = 1
  · refine mul_asks at_l (mul_same (by omega) (by omega) ?_) ⟨.ref l, _, I, rfl, once c'⟩
    rcases c' with rfl | rfl
    · cases vals; rfl
    · exact Bool.or_true _
  · have le : k ≤ 0 := by
      have : ¬ k = 1 := fun e => c' (.inr e)
      have : ¬ 2 ≤ k := fun e => c ⟨e, fun z => c' (.inl z)⟩
      omega
    have q := else' c'
    rw [Int.toNat_of_nonpos le] at q
    refine mul_asks at_l (mul_none (by omega) le ?_) ⟨.ref s.heap.objs.size, _, I.laid (t' := s.toks) (o := .tup []) (fun _ _ e => Heap.get?_push_of_some _ e) (Nat.le_refl _) ⟨by decide +kernel, _, .nil, IsTup.new _ _⟩, rfl, q _ (I.hok.fresh (Nat.le_refl _))⟩
    cases vals with
    | nil => exact absurd (.inl rfl) c'
    | cons => rfl
def pMulT : P2 := fun x y R => match x, y with
  | .int i, .int j => (CMul i j ∨ CMulW i j) ∧ R (.int (i * j))
  | .list xs, .int k => 0 ≤ k ∧ xs.length * k.toNat ≤ 1000000 ∧ k < 1000000 ∧ R (.list (List.replicate k.toNat xs).flatten)
  | .tuple xs, .int k => (-1000 ≤ k ∧ k ≤ 1000 ∧ xs.length ≤ 1000) ∧ R (.tuple (List.replicate k.toNat xs).flatten)
  | _, _ => False
theorem d_mulT : OpD X (binaryOp .Mult) pMulT := by
  intro pins s σ H x y v u Q I rx ry ⟨B, G, δ, σ', dx, dy, R, rel, bx, by', q, k⟩
  cases dx <;> cases dy <;> first | exact False.elim q | skip
  · exact d_mul pins s σ H x y v u Q I rx ry ⟨B, G, δ, σ', _, _, R, rel, bx, by', q, k⟩
  · exact d_mul pins s σ H x y v u Q I rx ry ⟨B, G, δ, σ', _, _, R, rel, bx, by', q, k⟩
  · rename_i ds i
    obtain ⟨a, vs, rfl, ha, ta⟩ := bor_tupS bx
    obtain ⟨⟨q0, q1, q2⟩, q3⟩ := q
    refine op_repA pins s σ H _ _ v u Q I rx ry ⟨a, i, vs, rfl, bor_int by', sqT_mono rel.sg (SqT.of ha), q0, q1, by rw [ta.len]; exact q2, fun hc => ?_, fun hc p np => ?_⟩
    · refine k _ H G _ q3 (Same.refl _) rel ?_
      rcases hc with rfl | rfl
      · have : ds = [] := by have := ta.len; simp at this; exact List.eq_nil_of_length_eq_zero this.symm
        subst this
        rw [List.flatten_replicate_nil] <;> exact Dn.tup ha ta
      · have e : (List.replicate (1 : Int).toNat ds).flatten = ds := by simp
        rw [e]; exact Dn.tup ha ta
    · obtain ⟨rel3, s3⟩ := rel.laid (o := .tup _) np
      exact k _ _ _ _ q3 s3 rel3 (Dn.tup upd_same ((ta.rep _).mono s3))
omit [Tb] in
@[simp ↓] theorem pMulT_ii (i : Int) (j : Int) (R : PyData → Prop) : pMulT (.int i) (.int j) R = ((CMul i j ∨ CMulW i j) ∧ R (.int (i * j))) := rfl
omit [Tb] in
@[simp ↓] theorem pMulT_li (xs : List PyData) (k : Int) (R : PyData → Prop) : pMulT (.list xs) (.int k) R = (0 ≤ k ∧ xs.length * k.toNat ≤ 1000000 ∧ k < 1000000 ∧ R (.list (List.replicate k.toNat xs).flatten)) := rfl
omit [Tb] in
@[simp ↓] theorem pMulT_ti (xs : List PyData) (k : Int) (R : PyData → Prop) : pMulT (.tuple xs) (.int k) R = ((-1000 ≤ k ∧ k ≤ 1000 ∧ xs.length ≤ 1000) ∧ R (.tuple (List.replicate k.toNat xs).flatten)) := rfl
end
end DL
set_option Elab.async false
set_option linter.all false
set_option maxRecDepth 100000
set_option maxHeartbeats 4000000
namespace DL
open PySem PySem.Spec PyProof.Rows L2
variable [Tb]
mutual
/-- a value reads as data, and where a dict is read it is empty and not the table of modules -/
def RdN (h : Heap) (v : Value) : PyData → Prop
  | .dict kvs => kvs = [] ∧ ∃ a o es n, v = .ref a ∧ a ≠ sysModules ∧ h.get? a = some o ∧ o.cls = .type "dict" ∧ o.data = .dict es n ∧ es.toList = []
  | .list xs => ∃ a o vs n, v = .ref a ∧ h.get? a = some o ∧ o.cls = .type "list" ∧ o.data = .seq vs n ∧ RdNs h vs.toList xs
  | .tuple xs => ∃ a o vs n, v = .ref a ∧ h.get? a = some o ∧ o.cls = .type "tuple" ∧ o.data = .seq vs n ∧ RdNs h vs.toList xs
  | d => Reads h v d []
def RdNs (h : Heap) (vs : List Value) : List PyData → Prop
  | [] => vs = []
  | d :: ds => ∃ v us, vs = v :: us ∧ RdN h v d ∧ RdNs h us ds
end
mutual
theorem RdN.reads {h : Heap} : ∀ (d : PyData) {v : Value}, RdN h v d → ∃ as, Reads h v d as
  | .none, _, r => ⟨_, r⟩
  | .bool _, _, r => ⟨_, r⟩
  | .int _, _, r => ⟨_, r⟩
  | .str _, _, r => ⟨_, r⟩
  | .list xs, _, ⟨_, _, _, _, e, h1, h2, h3, h4⟩ => (RdNs.reads xs h4).elim fun _ q => e ▸ ⟨_, Reads.list h1 h2 h3 q⟩
  | .tuple xs, _, ⟨_, _, _, _, e, h1, h2, h3, h4⟩ => (RdNs.reads xs h4).elim fun _ q => e ▸ ⟨_, Reads.tuple h1 h2 h3 q⟩
  | .dict _, _, ⟨z, _, _, _, _, e, _, h1, h2, h3, h4⟩ => e ▸ z ▸ ⟨_, Reads.dict (kvs := []) (as := []) (bs := []) h1 h2 h3 (by rw [h4]; exact ReadsAll.nil) (by rw [h4]; exact ReadsAll.nil)⟩
theorem RdNs.reads {h : Heap} : ∀ (ds : List PyData) {vs : List Value}, RdNs h vs ds → ∃ as, ReadsAll h vs ds as
  | [], _, e => e ▸ ⟨_, ReadsAll.nil⟩
  | d :: ds, _, ⟨_, _, e, a, b⟩ => (RdN.reads d a).elim fun _ p => (RdNs.reads ds b).elim fun _ q => e ▸ ⟨_, ReadsAll.cons p q⟩
end
section
variable {prog : Program} {w : World} {h₀ : Heap}
/-- what is told of a value that reads: somewhere below it, its repr is its text -/
def Tells (prog : Program) (w : World) (h₀ : Heap) (v : Value) (d : PyData) : Prop :=
  (∃ as, Reads h₀ v d as) ∧ (d.showable = true → d.shown.length ≤ sizeLine → ∃ bs, ReadAtMost h₀ d.depth bs ∧ ReprK prog w bs h₀ d.depth v d.shown)
def TellsAll (prog : Program) (w : World) (h₀ : Heap) (vs : List Value) (ds : List PyData) : Prop :=
  (∃ as, ReadsAll h₀ vs ds as) ∧ (PyData.showableAll ds = true → (∀ t ∈ PyData.shownAll ds, t.length ≤ sizeLine) → ∃ bs, ReadAtMost h₀ (PyData.depthAll ds) bs ∧ ReprAllK prog w bs h₀ (PyData.depthAll ds) vs (PyData.shownAll ds))
/-- .. and, for a thing of the heap, by its class's own method -/
def Shows (prog : Program) (w : World) (h₀ : Heap) (v : Value) (d : PyData) : Prop :=
  d.showable = true → d.shown.length ≤ sizeLine → ∃ a T idr, v = .ref a ∧ ShowsBy prog w h₀ a d T idr
theorem TellsAll.none : TellsAll prog w h₀ [] [] := ⟨⟨_, .nil⟩, fun _ _ => ⟨[], nofun, .nil⟩⟩
theorem TellsAll.more {v : Value} {d : PyData} {vs : List Value} {ds : List PyData} (a : Tells prog w h₀ v d) (b : TellsAll prog w h₀ vs ds) : TellsAll prog w h₀ (v :: vs) (d :: ds) := by
  obtain ⟨⟨as, ra⟩, ka⟩ := a
  obtain ⟨⟨bs, rb⟩, kb⟩ := b
  refine ⟨⟨_, .cons ra rb⟩, fun sh short => ?_⟩
  rw [PyData.showableAll, Bool.and_eq_true] at sh
  rw [PyData.shownAll] at short ⊢
  obtain ⟨cs, below_c, one⟩ := ka sh.1 (short _ List.mem_cons_self)
  obtain ⟨ds', below_d, rest⟩ := kb sh.2 fun t m => short t (List.mem_cons_of_mem _ m)
  rw [PyData.depthAll]
  exact ⟨cs ++ ds', (below_c.mono (Nat.le_max_left _ _)).append (below_d.mono (Nat.le_max_right _ _)), .cons ((one.more fun _ => List.mem_append_left _).level_le (Nat.le_max_left _ _)) (rest.more_le (fun _ => List.mem_append_right _) (Nat.le_max_right _ _))⟩
theorem tells_tuple {a : Addr} {o : Obj} {vs : Array Value} {n : Nat} {xs : List PyData} (at_a : h₀.get? a = some o) (cl : o.cls = .type "tuple") (dt : o.data = .seq vs n) (all : TellsAll prog w h₀ vs.toList xs) :
    Tells prog w h₀ (.ref a) (.tuple xs) ∧ Shows prog w h₀ (.ref a) (.tuple xs) := by
  obtain ⟨⟨as, rs⟩, told⟩ := all
  have r : Reads h₀ (.ref a) (.tuple xs) as := .tuple at_a cl dt rs
  have go : (PyData.tuple xs).showable = true → (PyData.tuple xs).shown.length ≤ sizeLine → ∃ bs, ReadAtMost h₀ (PyData.depthAll xs) bs ∧ a ∉ bs ∧ ReprAllK prog w bs h₀ (PyData.depthAll xs) vs.toList (PyData.shownAll xs) := fun sh short => by
    rw [PyData.showable] at sh
    rw [PyData.shown] at short
    obtain ⟨bs, below, k⟩ := told sh fun t m => Nat.le_trans (tupleText_mem_le m) short
    exact ⟨bs, below, not_mem_of_deeper r (by rw [PyData.depth]; omega) below, k⟩
  refine ⟨⟨⟨_, r⟩, fun sh short => ?_⟩, fun sh short => ?_⟩ <;> obtain ⟨bs, below, out, k⟩ := go sh short
  · rw [PyData.depth, PyData.shown]
    exact ⟨a :: bs, ReadAtMost.cons r (by rw [PyData.depth]; omega) below, ReprK.tuple at_a cl dt out k⟩
  · refine ⟨a, "tuple", "tuple.__repr__", rfl, { slotRepr := F.slot_tuple_repr, slotStr := F.slot_tuple_str, slotFmt := F.slot_tuple_format, typeIs := fun s kept => ⟨o, kept _ _ at_a, cl⟩, call := ?_ }⟩
    intro A E s Q calm room kept done
    rw [PyData.depth] at room
    rw [PyData.shown] at done short
    exact call_tuple_reprK at_a cl dt out k calm (fun b _ => Clear.nil b) room kept done short
theorem tells_list {a : Addr} {o : Obj} {vs : Array Value} {n : Nat} {xs : List PyData} (at_a : h₀.get? a = some o) (cl : o.cls = .type "list") (dt : o.data = .seq vs n) (all : TellsAll prog w h₀ vs.toList xs) :
    Tells prog w h₀ (.ref a) (.list xs) ∧ Shows prog w h₀ (.ref a) (.list xs) := by
  obtain ⟨⟨as, rs⟩, told⟩ := all
  have r : Reads h₀ (.ref a) (.list xs) (a :: as) := .list at_a cl dt rs
  have go : (PyData.list xs).showable = true → (PyData.list xs).shown.length ≤ sizeLine → ∃ bs, ReadAtMost h₀ (PyData.depthAll xs) bs ∧ a ∉ bs ∧ ReprAllK prog w bs h₀ (PyData.depthAll xs) vs.toList (PyData.shownAll xs) := fun sh short => by
    rw [PyData.showable] at sh
    rw [PyData.shown] at short
    obtain ⟨bs, below, k⟩ := told sh fun t m => Nat.le_trans (listText_mem_le m) short
    exact ⟨bs, below, not_mem_of_deeper r (by rw [PyData.depth]; omega) below, k⟩
  have slots (call) : ShowsBy prog w h₀ a (.list xs) "list" "list.__repr__" := { slotRepr := F.slot_list_repr.toG, slotStr := F.slot_list_str, slotFmt := F.slot_list_format, typeIs := fun s kept => ⟨o, kept _ _ at_a, cl⟩, call := call }
  rcases vs with ⟨_ | ⟨v, us⟩⟩
  · cases rs
    refine ⟨⟨⟨_, r⟩, fun _ _ => ⟨[a], ReadAtMost.cons r (Nat.le_refl _) nofun, ?_⟩⟩, fun _ _ => ⟨a, _, _, rfl, slots ?_⟩⟩
    · rw [PyData.shown, PyData.shownAll, listText_nil]
      exact ReprK.listEmpty at_a cl dt
    · intro A E s Q calm room kept done
      rw [PyData.shown, PyData.shownAll, listText_nil] at done
      exact call_list_repr_empty ⟨o, kept _ _ at_a, cl⟩ (kept _ _ at_a) dt (done s.heap _ _ fun _ _ e => e)
  · have each : ∀ {bs : List Addr}, ReprAllK prog w bs h₀ (PyData.depthAll xs) (v :: us) (PyData.shownAll xs) → (PyData.shownAll xs).length = (v :: us).toArray.size ∧ ∀ (i : Nat) (y : Value), (v :: us).toArray[i]? = some y → ∃ t, (PyData.shownAll xs)[i]? = some t ∧ ReprK prog w bs h₀ (PyData.depthAll xs) y t :=
      fun k => ⟨k.length_eq, fun i y e => k.item i y (by rw [← List.getElem?_toArray]; exact e)⟩
    refine ⟨⟨⟨_, r⟩, fun sh short => ?_⟩, fun sh short => ?_⟩ <;> obtain ⟨bs, below, out, k⟩ := go sh short
    · rw [PyData.depth, PyData.shown]
      exact ⟨a :: bs, ReadAtMost.cons r (by rw [PyData.depth]; omega) below, ReprK.list at_a cl dt out (each k).1 (each k).2⟩
    · refine ⟨a, _, _, rfl, slots ?_⟩
      intro A E s Q calm room kept done
      rw [PyData.depth] at room
      rw [PyData.shown] at done short
      exact call_list_reprK at_a cl dt out (each k).1 (each k).2 calm (fun b _ => Clear.nil b) room kept done short
theorem tells_empty {a : Addr} {o : Obj} {es : Array DictEntry} {n : Nat} (other : a ≠ sysModules) (at_a : h₀.get? a = some o) (cl : o.cls = .type "dict") (dt : o.data = .dict es n) (no : es.toList = []) :
    Tells prog w h₀ (.ref a) (.dict []) ∧ Shows prog w h₀ (.ref a) (.dict []) := by
  have r : Reads h₀ (.ref a) (.dict []) [a] := Reads.dict (kvs := []) (as := []) (bs := []) at_a cl dt (by rw [no]; exact ReadsAll.nil) (by rw [no]; exact ReadsAll.nil)
  have out : (a == sysModules) = false := beq_false_of_ne other
  have entries : ReprEntriesK prog w [] h₀ 0 es.toList [] := by rw [no]; exact .nil
  have deep : (PyData.dict []).depth = 0 + 1 := by rw [PyData.depth, PyData.depthKv]
  have text : (PyData.dict []).shown = dictText [] := by rw [PyData.shown, PyData.shownKv]
  refine ⟨⟨⟨_, r⟩, fun _ _ => ⟨[a], ReadAtMost.cons r (Nat.le_refl _) nofun, ?_⟩⟩, fun _ short => ⟨a, "dict", "dict.__repr__", rfl, { slotRepr := F.slot_dict_repr, slotStr := F.slot_dict_str, slotFmt := F.slot_dict_format, typeIs := fun s kept => ⟨o, kept _ _ at_a, cl⟩, call := ?_ }⟩⟩
  · rw [deep, text]
    exact ReprK.dict at_a cl dt out List.not_mem_nil entries
  · intro A E s Q calm room kept done
    rw [deep] at room
    rw [text] at done short
    exact call_dict_reprK at_a cl dt out List.not_mem_nil entries calm (fun b _ => Clear.nil b) room kept done short
theorem tells_flat {v : Value} {d : PyData} {t : Str} (r : Reads h₀ v d []) (is : d.showable = true → d.shown.length ≤ sizeLine → ReprIs prog w v d.shown) : Tells prog w h₀ v d :=
  ⟨⟨_, r⟩, fun sh short => ⟨[], nofun, .of_is (is sh short) _ _ _⟩⟩
mutual
theorem RdN.tells : ∀ (d : PyData) {v : Value}, RdN h₀ v d → Tells prog w h₀ v d
  | .none, _, r => tells_flat (t := "") r fun _ _ => by cases r; exact ReprIs.none
  | .bool _, _, r => tells_flat (t := "") r fun _ _ => by cases r; exact ReprIs.bool _
  | .int _, _, r => tells_flat (t := "") r fun sh _ => by cases r; exact ReprIs.int _ (by simpa [PyData.showable] using sh)
  | .str _, _, r => tells_flat (t := "") r fun _ short => by cases r; exact ReprIs.str _ _ (by rw [PyData.shown] at short; exact short)
  | .list xs, _, r => by obtain ⟨a, o, vs, n, rfl, h1, h2, h3, h4⟩ := r; exact (tells_list h1 h2 h3 (RdNs.tells xs h4)).1
  | .tuple xs, _, r => by obtain ⟨a, o, vs, n, rfl, h1, h2, h3, h4⟩ := r; exact (tells_tuple h1 h2 h3 (RdNs.tells xs h4)).1
  | .dict kvs, _, r => by obtain ⟨rfl, a, o, es, n, rfl, h1, h2, h3, h4, h5⟩ := r; exact (tells_empty h1 h2 h3 h4 h5).1
theorem RdNs.tells : ∀ (ds : List PyData) {vs : List Value}, RdNs h₀ vs ds → TellsAll prog w h₀ vs ds
  | [], _, r => by cases r; exact .none
  | d :: ds, _, r => by obtain ⟨v, us, rfl, a, b⟩ := r; exact .more (RdN.tells d a) (RdNs.tells ds b)
end
theorem RdN.shows {a : Addr} : ∀ {d : PyData}, RdN h₀ (.ref a) d → Shows prog w h₀ (.ref a) d
  | .none, r => nomatch (show Reads _ _ _ _ from r)
  | .bool _, r => nomatch (show Reads _ _ _ _ from r)
  | .int _, r => nomatch (show Reads _ _ _ _ from r)
  | .str _, r => nomatch (show Reads _ _ _ _ from r)
  | .list xs, r => by obtain ⟨b, o, vs, n, e, h1, h2, h3, h4⟩ := r; cases e; exact (tells_list h1 h2 h3 (RdNs.tells xs h4)).2
  | .tuple xs, r => by obtain ⟨b, o, vs, n, e, h1, h2, h3, h4⟩ := r; cases e; exact (tells_tuple h1 h2 h3 (RdNs.tells xs h4)).2
  | .dict kvs, r => by obtain ⟨rfl, b, o, es, n, e, h1, h2, h3, h4, h5⟩ := r; cases e; exact (tells_empty h1 h2 h3 h4 h5).2
theorem repr_of_N {a : Addr} {d : PyData} {A : Around} {E : Value → Shared → Prop} {s : Shared} {Q : Value → Shared → Prop} (r : RdN s.heap (.ref a) d) (sh : d.showable = true) (short : d.shown.length ≤ sizeLine) (calm : A.guards = some []) (room : A.units + (d.depth + 1) < cLine)
    (done : ∀ h' u tk, (∀ b o, s.heap.get? b = some o → h'.get? b = some o) → Q (.str d.shown u) { s with heap := h', toks := tk }) : wpAny (model prog w) A (call (.builtin "repr") [.ref a]) Q E s := by
  obtain ⟨_, T, idr, e, S⟩ := RdN.shows (prog := prog) (w := w) r sh short
  cases e
  have in1 : A.in1.units = A.units + 1 := rfl
  exact call_repr_slot (by omega) (S.typeIs s fun _ _ e => e) S.slotRepr (S.call A.in1 E s _ calm (by omega) (fun _ _ e => e) fun h' u tk kept => ⟨_, _, rfl, done h' u tk kept⟩)
end
mutual
def noO : PyData → Bool
  | .list xs | .tuple xs => noOL xs
  | .dict (_ :: _) => false
  | _ => true
def noOL : List PyData → Bool
  | [] => true
  | x :: xs => noO x && noOL xs
end
mutual
theorem noO_show {K : PySem.W.Frag} {G : Hp} : ∀ {v : V} {d : PyData}, Dn K G v d → d.showable = true → noO d = true
  | _, _, .non, _ => rfl
  | _, _, .bl _, _ => rfl
  | _, _, .int _, _ => rfl
  | _, _, .str _, _ => rfl
  | _, _, .lst _ t, h => by rw [noO]; exact noOL_show t (by simpa [PyData.showable] using h)
  | _, _, .tup _ t, h => by rw [noO]; exact noOL_show t (by simpa [PyData.showable] using h)
  | _, _, .dic _ _, _ => rfl
  | _, _, .ob _ _ _ _, h => by
    have z : ¬ markI.natAbs.log2 < 1920 := by decide +kernel
    simp [PyData.showable, PyData.showableKv, z] at h
theorem noOL_show {K : PySem.W.Frag} {G : Hp} : ∀ {vs : List V} {ds : List PyData}, DnL K G vs ds → PyData.showableAll ds = true → noOL ds = true
  | _, _, .nil, _ => rfl
  | _, _, .cons a b, h => by
    rw [PyData.showableAll, Bool.and_eq_true] at h
    rw [noOL, noO_show a h.1, noOL_show b h.2]
    rfl
end
mutual
theorem noO_lay : ∀ d : PyData, d.canLay0 = true → noO d = true
  | .none, _ => rfl
  | .bool _, _ => rfl
  | .int _, _ => rfl
  | .str _, _ => rfl
  | .list xs, h => by rw [noO]; exact noOL_lay xs (by simpa [PyData.canLay0] using h)
  | .tuple xs, h => by rw [noO]; exact noOL_lay xs (by simpa [PyData.canLay0] using h)
  | .dict _, h => by simp [PyData.canLay0] at h
theorem noOL_lay : ∀ ds : List PyData, PyData.canLayAll0 ds = true → noOL ds = true
  | [], _ => rfl
  | d :: ds, h => by
    rw [PyData.canLayAll0, Bool.and_eq_true] at h
    rw [noOL, noO_lay d h.1, noOL_lay ds h.2]
    rfl
end
omit [Tb] in
@[simp] theorem noO_i (i : Int) : noO (.int i) = true := rfl
omit [Tb] in
@[simp] theorem noO_b (i : Bool) : noO (.bool i) = true := rfl
omit [Tb] in
@[simp] theorem noO_s (i : Str) : noO (.str i) = true := rfl
omit [Tb] in
@[simp] theorem noO_n : noO .none = true := rfl
omit [Tb] in
@[simp] theorem noOL_e : noOL [] = true := rfl
section
variable {X : Cx} {pins : List (Addr × Obj)} {σ : L2.St} {H : Hp} {s : Shared}
mutual
theorem Dn.rdN (I : L2.Inv X pins σ H s) : ∀ (d : PyData) {v : V} {u : Value}, noO d = true → Dn X.K H v d → RelV v u → RdN s.heap u d
  | .none, _, _, _, h, r => by cases h; cases r; exact Reads.none
  | .bool b, _, _, _, h, r => by cases h; cases r; exact Reads.bool b
  | .int i, _, _, _, h, r => by cases h; obtain ⟨t, rfl⟩ := r; exact Reads.int i t
  | .str x, _, _, _, h, r => by cases h; obtain ⟨t, rfl⟩ := r; exact Reads.str x t
  | .list ds, _, _, c, .lst h t, r => by
    rw [noO] at c
    cases r
    obtain ⟨its, rv, ⟨o, n, ho, hc, _, hd⟩, _⟩ := I.list (SqL.of h)
    exact ⟨_, o, _, n, rfl, ho, hc, hd, DnL.rdN I ds c t rv⟩
  | .tuple ds, _, _, c, .tup h t, r => by
    rw [noO] at c
    cases r
    obtain ⟨its, rv, ⟨o, ho, hc, n, hd⟩, _⟩ := I.tuple (SqT.of h)
    exact ⟨_, o, _, n, rfl, ho, hc, hd, DnL.rdN I ds c t rv⟩
  | .dict (_ :: _), _, _, c, _, _ => by simp [noO] at c
  | .dict [], _, _, _, .dic h n, r => by
    cases r
    obtain ⟨_, other, vs, kv, o, es, ep, ho, ⟨hc, _⟩, hd, _, hp, _⟩ := I.hok _ _ h
    cases kv
    have no : ∀ l, Pairs (mixKind X.prog X.w) l ([] : List (L2.Key × Value)) → l = [] := fun l q => by cases q; rfl
    exact ⟨rfl, _, o, es, ep, rfl, beq_eq_false_iff_ne.mp other, ho, hc, hd, no _ hp⟩
theorem DnL.rdN (I : L2.Inv X pins σ H s) : ∀ (ds : List PyData) {vs : List V} {us : List Value}, noOL ds = true → DnL X.K H vs ds → Vals vs us → RdNs s.heap us ds
  | [], _, _, _, h, r => by cases h; cases r; exact rfl
  | d :: ds, _, _, c, .cons a b, .cons r1 r2 => by
    rw [noOL, Bool.and_eq_true] at c
    exact ⟨_, _, rfl, Dn.rdN I d c.1 a r1, DnL.rdN I ds c.2 b r2⟩
end
end

/-- repr of data, with empty dicts or not -/
def pReprN : PN := one fun x R => x.showable = true ∧ x.depth ≤ 60 ∧ x.shown.length ≤ 16000000 ∧ R (.str x.shown)
section
variable {X : Cx}
theorem c_reprN (hg : X.A.guards = some []) (hu : X.A.units + 64 < cLine) : CallD X (.builtin "repr") pReprN := by
  intro pins s σ H vs us Q I r ⟨B, G, δ, σ', ds, R, rel, b, q, k⟩
  match ds, q with
  | [d], ⟨q1, q3, q4, q⟩ =>
    obtain ⟨v, rfl, bd⟩ := b.one
    obtain ⟨u, rfl, ru⟩ := vals1 r; have dn := bd.dn rel
    have fin := k (.str d.shown) H G _ q (Same.refl _) rel (Dn.str _)
    have hsz : d.shown.length ≤ sizeLine := Nat.le_trans q4 (by decide)
    have rd := Dn.rdN I d (noO_show dn q1) dn ru
    have go : ∀ {x : Str} {t : Tok} {s' : Shared}, x = d.shown → Inv X pins σ H s' → EP X pins σ Q (.str x t) s' := fun {x t s'} e I' => by
      subst e
      exact ⟨.str d.shown, H, I', ⟨t, rfl⟩, fin⟩
    have big : ∀ a, u = .ref a → wpAny (model X.prog X.w) X.A (call (.builtin "repr") [u]) (EP X pins σ Q) X.xe s := fun a e => by
      subst e
      exact repr_of_N rd q1 hsz hg (by omega) fun h' u tk hk => go rfl (I.kept hk)
    cases dn with
    | non => cases ru; exact PySem.P.repr_of_none (go rfl (I.tok _))
    | bl b => cases ru; exact PySem.P.repr_of_bool (go (by cases b <;> simp [PyData.shown]) (I.tok _))
    | int i => obtain ⟨t, rfl⟩ := ru; exact PySem.P.repr_of_int (by simpa [PyData.showable] using q1) (go (by simp [PyData.shown]) (I.tok _))
    | str z => obtain ⟨t, rfl⟩ := ru; exact PySem.P.repr_of_str (go (by simp [PyData.shown]) (I.tok _)) (by simpa [PyData.shown] using hsz)
    | lst h t => cases ru; exact big _ rfl
    | tup h t => cases ru; exact big _ rfl
    | dic h n => cases ru; exact big _ rfl
    | ob h k e t => cases ru; exact big _ rfl
end
omit [Tb] in
@[simp ↓] theorem pReprN_x (x : PyData) (R : PyData → Prop) : pReprN [x] R = (x.showable = true ∧ x.depth ≤ 60 ∧ x.shown.length ≤ 16000000 ∧ R (.str x.shown)) := rfl
end DL
set_option Elab.async false
set_option linter.all false
set_option maxRecDepth 100000
set_option maxHeartbeats 4000000
namespace DL
open PySem PySem.Spec PyProof.Rows L2
variable [Tb]
theorem fm_congr {α β : Type} {f g : α → Option β} : ∀ {l : List α}, (∀ x ∈ l, f x = g x) → l.filterMap f = l.filterMap g
  | [], _ => rfl
  | x :: l, h => by rw [List.filterMap_cons, List.filterMap_cons, h x (List.mem_cons_self ..), fm_congr fun y hy => h y (List.mem_cons_of_mem _ hy)]
/-- the slice's lower end, walked down to: none of it, or 0 -/
def downTo : Nat → Option Int
  | 0 => none
  | _ + 1 => some 0
section
variable {prog : Program} {w : World} {A : Around} {E : Value → Shared → Prop} {s : Shared}
theorem places_back {n d : Nat} (d1 : d ≤ 1) (le : d ≤ n) : Builtin.Slice.sliceAdjust none (downTo d) (-1) (n : Int) = ((n : Int) - 1, (d : Int) - 1) ∧ Builtin.Slice.slicePlaces ((n : Int) - 1) ((d : Int) - 1) (-1) = n - d := by
  constructor
  · rcases Nat.le_one_iff_eq_zero_or_eq_one.mp d1 with rfl | rfl
    · rfl
    · unfold Builtin.Slice.sliceAdjust; simp [downTo]; omega
  · unfold Builtin.Slice.slicePlaces
    rw [if_neg (by decide), Int.neg_neg, Int.ediv_one]
    split <;> omega
theorem applied_back {sl : Addr} {vl vu vs : Value} {n d : Nat} {Q : Int × Int × Nat → Shared → Prop} (d1 : d ≤ 1) (le : d ≤ n) (hs : s.heap.IsSliceOf sl vl vu vs) (pl : IsPart vl none) (pu : IsPart vu (downTo d)) (ps : IsPart vs (some (-1)))
    (h : Q ((n : Int) - 1, -1, n - d) s) : wpAny (model prog w) A (Builtin.Slice.sliceApplied (.ref sl) (pure (n : Int))) Q E s := by
  obtain ⟨o, at_sl, _, parts⟩ := id hs
  obtain ⟨ends, count⟩ := places_back d1 le
  have part {i : Nat} {x : Value} {G : Value → Shared → Prop} (e : #[vl, vu, vs][i]? = some x) (g : G x s) : wpAny (model prog w) A (field (.ref sl) i) G E s := wpAny_field at_sl parts e g
  have last : wpAny (model prog w) A (match Builtin.Slice.sliceAdjust none (downTo d) (-1) (n : Int) with | (lo, hi) => pure (lo, (-1 : Int), Builtin.Slice.slicePlaces lo hi (-1))) Q E s := by
    rw [ends]; dsimp only; rw [count]; exact wpAny_pure h
  delta Builtin.Slice.sliceApplied Builtin.Slice.sliceFields
  refine wpAny_bind (wpAny_bind (part rfl (wpAny_bind (part rfl (wpAny_bind (part rfl (wpAny_pure (wpAny_bind (HT.slicePart_ ps ?_)))))))))
  exact wpAny_ite_false (by decide) (wpAny_bind (HT.slicePart_ pl (wpAny_bind (HT.slicePart_ pu (wpAny_bind (wpAny_pure last))))))
theorem picks_back (xs : Array Value) (d : Nat) : ((List.range (xs.size - d)).filterMap fun (m : Nat) => xs[((xs.size : Int) - 1 + (m : Int) * (-1)).toNat]?) = (xs.toList.drop d).reverse := by
  rw [fm_congr (g := fun m => some ((xs.toList.drop d).reverse[m]?.getD .none)) fun m hm => ?_]
  · refine List.ext_getElem? fun i => ?_
    rw [show (fun m => some ((xs.toList.drop d).reverse[m]?.getD Value.none)) = some ∘ fun m => (xs.toList.drop d).reverse[m]?.getD Value.none from rfl, List.filterMap_eq_map, List.getElem?_map]
    by_cases hi : i < xs.size - d
    · rw [List.getElem?_range hi, List.getElem?_eq_getElem (by simp; exact hi)]; simp [hi]
    · rw [List.getElem?_eq_none (by simp; omega), List.getElem?_eq_none (by simp; omega)]; rfl
  · have hm := List.mem_range.mp hm
    have at_m : ((xs.size : Int) - 1 + (m : Int) * (-1)).toNat = xs.size - 1 - m := by omega
    rw [at_m, List.getElem?_eq_getElem (l := (xs.toList.drop d).reverse) (by simp; exact hm), Array.getElem?_eq_getElem (by omega)]
    simp only [List.getElem_reverse, List.getElem_drop, List.length_drop, Array.length_toList, Option.getD_some, Array.getElem_toList]
    congr 2
    omega
theorem item_back {t sl : Addr} {its : Array Value} {d : Nat} {vl vu vs : Value} {Q : Value → Shared → Prop} (d1 : d ≤ 1) (le : d ≤ its.size) (isT : IsTup s.heap t its) (isS : s.heap.IsSliceOf sl vl vu vs) (pl : IsPart vl none) (pu : IsPart vu (downTo d)) (ps : IsPart vs (some (-1)))
    (fits : its.size ≤ sizeLine) (h : Q (.ref s.heap.objs.size) { s with heap := s.heap.push { cls := .type "tuple", data := .seq (its.toList.drop d).reverse.toArray } }) : wpAny (model prog w) A (getItem (.ref t) (.ref sl)) Q E s := by
  have room : sizeOk (.seq (its.toList.drop d).reverse.toArray) := show (its.toList.drop d).reverse.toArray.size ≤ sizeLine by simp; omega
  have notAll : ¬ (((its.size : Int) - 1 == 0 && (-1 : Int) == 1 && its.size - d == its.size) = true) := by rw [show ((-1 : Int) == 1) = false from rfl, Bool.and_false, Bool.false_and]; decide
  have made {A' : Around} {G : Value → Shared → Prop} (g : G (.ref s.heap.objs.size) { s with heap := s.heap.push { cls := .type "tuple", data := .seq (its.toList.drop d).reverse.toArray } }) :
      wpAny (model prog w) A' (Builtin.«tuple.__getitem__» ⟨[.ref t, .ref sl], []⟩) (fun fin z => ∃ v, fin = .done (.ret v) ∧ G v z) E s := by
    refine wpAny_bind (m := Builtin.Tuple.tupleItemsOf (.ref t)) (tupleItemsOf_ isT (wpAny_bind (wpAny_typeOf (show s.TypeIs (.ref sl) "slice" from isS.imp fun _ z => ⟨z.1, z.2.1⟩) ?_)))
    refine wpAny_ite_true (by decide) (wpAny_bind (applied_back d1 le isS pl pu ps (wpAny_ite_false (decide_eq_false notAll) ?_)))
    have same := congrArg List.toArray (picks_back its d)
    show wpAny _ _ (Builtin.Tuple.tupleExact ((List.range (its.size - d)).filterMap fun (m : Nat) => its[((its.size : Int) - 1 + (m : Int) * (-1)).toNat]?).toArray >>= _) _ _ s
    rw [same]
    exact wpAny_bind (m := Builtin.Tuple.tupleExact _) (wpAny_newObj_type (wpAny_pure ⟨_, rfl, g⟩) room)
  exact wpAny_getItem_slot isT.typeIs (by decide) slot_tuple_getitem (wpAny_call_entry slot_tuple_getitem isT.typeIs entry_tuple_getitem (made h) (args_tuple_getitem _ _))
end
section
variable {X : Cx}
def tBack (K : PySem.W.Frag) (d : Nat) (te : TE) : TE := fun σ H Q => te σ H fun x H1 => ∃ a xs, x = .ref a ∧
  ((d = 0 ∧ SqL K H1 a xs ∧ ∀ p, H1 p = none → Q (.ref p) (upd H1 p (.lst xs.reverse))) ∨ (SqT K H1 a xs ∧ d ≤ xs.length ∧ ∀ p, H1 p = none → Q (.ref p) (upd H1 p (.tup (xs.drop d).reverse))))
theorem vals_drop {xs : List V} {us : List Value} (r : Vals xs us) (d : Nat) : Vals (xs.drop d) (us.drop d) := r.drop d
theorem pe_back {e : Expr} {up : Option Expr} {te : TE} {tU : TO} {d k : Nat} {p1 p2 p3 pos : Pos} (d1 : d ≤ 1) (he : PE X e te) (hup : PO X up tU) (low : ∀ σ H (Q : Option Int → Hp → Prop), Q (downTo d) H → tU σ H Q) :
    PE X (.Subscript e (.Slice none up (some (.UnaryOp .USub (.Constant (.int 1) k p1) p2)) p3) pos) (tBack X.K d te) where
  run pins s σ H Q I h := by
    have minus : PO X (some (.UnaryOp .USub (.Constant (.int 1) k p1) p2)) (tPart (tUn (rU fun i => .int (-i)) (tC (.int 1)))) := po_some (pe_un un_neg pe_int)
    refine Subscript_ (wpAny_mono (he.run pins s σ H _ I h) ?_ fun _ _ z => z)
    rintro _ s1 ⟨_, H1, I1, r1, a, xs, rfl, q⟩
    cases r1
    refine wpAny_Slice (wpAny_mono (po_none.run pins s1 σ H1 (fun o H2 => o = none ∧ H2 = H1) I1 ⟨rfl, rfl⟩) ?_ fun _ _ z => z)
    rintro vl s2 ⟨_, _, I2, pl, rfl, rfl⟩
    refine wpAny_mono (hup.run pins s2 σ _ (fun o H3 => o = downTo d ∧ H3 = _) I2 (low _ _ _ ⟨rfl, rfl⟩)) ?_ fun _ _ z => z
    rintro vu s3 ⟨_, _, I3, pu, rfl, rfl⟩
    refine wpAny_mono (minus.run pins s3 σ _ (fun o H4 => o = some (-1) ∧ H4 = _) I3 ⟨1, rfl, -1, rfl, rfl, rfl⟩) ?_ fun _ _ z => z
    rintro vs ⟨hp, gs, dr, tk, os⟩ ⟨_, _, I4, ps, rfl, rfl⟩
    have I5 := I4.kept (t' := tk) (h' := hp.push { cls := .type "slice", data := .fields #[vl, vu, vs] }) fun _ _ z => Heap.get?_push_of_some _ z
    have isS := Heap.IsSliceOf.new hp vl vu vs
    have new {o : Obj} {b : Addr} {u : Obj} (z : (hp.push { cls := .type "slice", data := .fields #[vl, vu, vs] }).get? b = some u) : ((hp.push { cls := .type "slice", data := .fields #[vl, vu, vs] }).push o).get? b = some u := Heap.get?_push_of_some _ z
    have tail {id : String} {T : String} (ty : Shared.TypeIs ⟨hp.push { cls := .type "slice", data := .fields #[vl, vu, vs] }, gs, dr, tk, os⟩ (.ref a) T) (look : typeLookup (.type T) "__getitem__" = pure (some (.builtin id))) {G : Value → Shared → Prop}
        (g : wpAny (model X.prog X.w) X.A (getItem (.ref a) (.ref hp.objs.size)) G X.xe ⟨hp.push { cls := .type "slice", data := .fields #[vl, vu, vs] }, gs, dr, tk, os⟩) :
        wpAny (model X.prog X.w) X.A (subscriptTail e (.Slice none up (some (.UnaryOp .USub (.Constant (.int 1) k p1) p2)) p3) (.ref a) (.ref hp.objs.size)) G X.xe ⟨hp.push { cls := .type "slice", data := .fields #[vl, vu, vs] }, gs, dr, tk, os⟩ :=
      tail_any (ops := [.ref a, .ref hp.objs.size]) ty look g (by with_unfolding_all rfl)
    rcases q with ⟨rfl, isL, q⟩ | ⟨isT, le, q⟩
    · obtain ⟨its, r, at_a, fits⟩ := I5.list isL
      have len := r.length
      refine tail at_a.isList.typeIs PySem.slot_list_getitem.lookup (wpAny_getItem_list_slice at_a.isList isS pl pu ps (by decide) ?_ (by rw [List.size_toArray]; omega))
      rw [show downTo 0 = none from rfl, PySem.W.krv_pick]
      exact ⟨.ref _, _, I5.laid (t' := tk) (o := .lst xs.reverse) (fun _ _ => new) (Nat.le_refl _) ⟨by simpa using fits, _, 0, r.reverse, Heap.get?_push_size _ rfl⟩, rfl, q _ (I5.hok.fresh (Nat.le_refl _))⟩
    · obtain ⟨its, r, at_a, fits⟩ := I5.tuple isT
      have len := r.length
      refine tail at_a.typeIs PyProof.Rows.slot_tuple_getitem.lookup (item_back d1 (by rw [List.size_toArray]; omega) at_a isS pl pu ps (by rw [List.size_toArray]; omega) ?_)
      exact ⟨.ref _, _, I5.laid (t' := tk) (o := .tup (xs.drop d).reverse) (fun _ _ => new) (Nat.le_refl _) ⟨by simp; omega, _, (vals_drop r d).reverse, IsTup.new _ _⟩, rfl, q _ (I5.hok.fresh (Nat.le_refl _))⟩
/-- x[::-1] of a list or a tuple -/
def revD (x : PyData) (k : PyData → Prop) : Prop := match x with
  | .list ds => k (.list ds.reverse)
  | .tuple ds => k (.tuple ds.reverse)
  | _ => False
omit [Tb] in
@[simp ↓] theorem revD_l (ds : List PyData) (k : PyData → Prop) : revD (.list ds) k = k (.list ds.reverse) := rfl
omit [Tb] in
@[simp ↓] theorem revD_t (ds : List PyData) (k : PyData → Prop) : revD (.tuple ds) k = k (.tuple ds.reverse) := rfl
def wRevA (w : DE) : DE := fun δ R => w δ fun o δ1 => use o δ1 fun x => revD x fun z => R (.d z) δ1
omit [Tb] in
@[simp ↓] theorem wRevA_ap (w : DE) (δ : DS) (R : Opd → DS → Prop) : wRevA w δ R = (w δ fun o δ1 => use o δ1 fun x => revD x fun z => R (.d z) δ1) := rfl
theorem je_revA {e : Expr} {w : DE} {p1 p2 p3 pos : Pos} {k1} (h : JE X e w) : JE X (.Subscript e (.Slice none none (some (.UnaryOp .USub (.Constant (.int 1) k1 p1) p2)) p3) pos) (wRevA w) :=
  pe_le (pe_back (Nat.zero_le 1) h po_none fun _ _ _ q => q) fun pins s σ H Q I ⟨B, G, δ, R, rel, hw, k⟩ => ⟨B, G, δ, _, rel, hw, fun v H1 G1 o δ1 r1 s1 rel1 ok1 => by
    obtain ⟨d, q, bd⟩ := use_ok rel1 ok1 r1
    cases d with
    | list ds =>
      obtain ⟨a, ws, rfl, ha, ta⟩ := bor_lst rel1 bd
      refine ⟨a, ws, rfl, .inl ⟨rfl, SqL.of ha, fun p np => ?_⟩⟩
      obtain ⟨rel3, s3⟩ := rel1.laid (o := .lst ws.reverse) np
      exact k _ _ _ _ _ q (s1.trans s3) rel3 (Dn.lst upd_same (ta.rev.mono s3))
    | tuple ds =>
      obtain ⟨a, ws, rfl, ha, ta⟩ := bor_tup bd
      refine ⟨a, ws, rfl, .inr ⟨sqT_mono rel1.sg ha, Nat.zero_le _, fun p np => ?_⟩⟩
      obtain ⟨rel3, s3⟩ := rel1.laid (o := .tup ws.reverse) np
      exact k _ _ _ _ _ q (s1.trans s3) rel3 (Dn.tup upd_same (ta.rev.mono s3))
    | _ => exact False.elim q⟩
def pAddB : P2 := fun x y R => match x, y with
  | .bool b, .int j => R (.int ((if b = true then 1 else 0) + j))
  | x, y => pAdd x y R
def pSubB : P2 := fun x y R => match x, y with
  | .bool b, .int j => R (.int ((if b = true then 1 else 0) - j))
  | x, y => pSub x y R
theorem d_addB : OpD X (binaryOp .Add) pAddB := by
  intro pins s σ H x y v u Q I rx ry ⟨B, G, δ, σ', dx, dy, R, rel, bx, by', q, k⟩
  by_cases c : ∃ b j, dx = .bool b ∧ dy = .int j
  · obtain ⟨b, j, rfl, rfl⟩ := c
    obtain rfl := bor_bool bx
    obtain rfl := bor_int by'
    cases rx
    obtain ⟨t, rfl⟩ := ry
    exact IntBool.add_bool_int ⟨.int _, H, I.tok _, ⟨_, rfl⟩, k _ H G _ q (Same.refl _) rel (Dn.int _)⟩
  · refine d_add pins s σ H x y v u Q I rx ry ⟨B, G, δ, σ', dx, dy, R, rel, bx, by', ?_, k⟩
    unfold pAddB at q
    split at q
    · exact absurd ⟨_, _, rfl, rfl⟩ c
    · exact q
theorem d_subB : OpD X (binaryOp .Sub) pSubB := by
  intro pins s σ H x y v u Q I rx ry ⟨B, G, δ, σ', dx, dy, R, rel, bx, by', q, k⟩
  by_cases c : ∃ b j, dx = .bool b ∧ dy = .int j
  · obtain ⟨b, j, rfl, rfl⟩ := c
    obtain rfl := bor_bool bx
    obtain rfl := bor_int by'
    cases rx
    obtain ⟨t, rfl⟩ := ry
    exact IntBool.sub_bool_int ⟨.int _, H, I.tok _, ⟨_, rfl⟩, k _ H G _ q (Same.refl _) rel (Dn.int _)⟩
  · refine d_sub pins s σ H x y v u Q I rx ry ⟨B, G, δ, σ', dx, dy, R, rel, bx, by', ?_, k⟩
    unfold pSubB at q
    split at q
    · exact absurd ⟨_, _, rfl, rfl⟩ c
    · exact q
omit [Tb] in
@[simp ↓] theorem pAddB_bi (b : Bool) (j : Int) (R : PyData → Prop) : pAddB (.bool b) (.int j) R = R (.int ((if b = true then 1 else 0) + j)) := rfl
omit [Tb] in
@[simp ↓] theorem pAddB_ii (i : Int) (j : Int) (R : PyData → Prop) : pAddB (.int i) (.int j) R = (R (.int (i + j))) := rfl
omit [Tb] in
@[simp ↓] theorem pAddB_ss (a : Str) (b : Str) (R : PyData → Prop) : pAddB (.str a) (.str b) R = (a.length + b.length ≤ 1000000 ∧ R (.str (a ++ b))) := rfl
omit [Tb] in
@[simp ↓] theorem pAddB_tt (xs : List PyData) (ys : List PyData) (R : PyData → Prop) : pAddB (.tuple xs) (.tuple ys) R = (xs.length + ys.length ≤ 1000000 ∧ R (.tuple (xs ++ ys))) := rfl
omit [Tb] in
@[simp ↓] theorem pAddB_ll (xs : List PyData) (ys : List PyData) (R : PyData → Prop) : pAddB (.list xs) (.list ys) R = (xs.length + ys.length ≤ 1000000 ∧ R (.list (xs ++ ys))) := rfl
omit [Tb] in
@[simp ↓] theorem pSubB_bi (b : Bool) (j : Int) (R : PyData → Prop) : pSubB (.bool b) (.int j) R = R (.int ((if b = true then 1 else 0) - j)) := rfl
omit [Tb] in
@[simp ↓] theorem pSubB_ii (i : Int) (j : Int) (R : PyData → Prop) : pSubB (.int i) (.int j) R = (R (.int (i - j))) := rfl
end
end DL
namespace DL
open PySem PySem.Spec PyProof.Rows L2
variable [Tb]
def pStrB : PN := one fun x R => match x with
  | .int i => i.natAbs.log2 < 1920 ∧ R (.str (toString i))
  | .bool b => R (.str (if b then ("True" : Str) else ("False" : Str)))
  | .str z => R (.str z)
  | _ => False
section
variable {X : Cx}
omit [Tb] in
@[simp ↓] theorem pStrB_i (i : Int) (R : PyData → Prop) : pStrB [.int i] R = (i.natAbs.log2 < 1920 ∧ R (.str (toString i))) := rfl
omit [Tb] in
@[simp ↓] theorem pStrB_b (b : Bool) (R : PyData → Prop) : pStrB [.bool b] R = R (.str (if b then ("True" : Str) else ("False" : Str))) := rfl
omit [Tb] in
@[simp ↓] theorem pStrB_s (z : Str) (R : PyData → Prop) : pStrB [.str z] R = R (.str z) := rfl
end
section
variable {P : Program} {w : World} {K : PySem.W.Frag} {mg : Str → Option Value} {base : Heap} {CX : CXT} {f : Addr} {fd : FuncData} {ps : List Str} {k : Nat}
end
end DL
set_option Elab.async false
set_option linter.all false
set_option maxRecDepth 100000
set_option maxHeartbeats 4000000
namespace DL
open PySem PySem.Spec PyProof.Rows L2
variable [Tb]
section
omit [Tb]
mutual
theorem noO_alike : ∀ d : PyData, W.alike d d = true → noO d = true
  | .none, _ => rfl
  | .bool _, _ => rfl
  | .int _, _ => rfl
  | .str _, _ => rfl
  | .list xs, h => by rw [noO]; exact noOL_alike xs (by simpa [W.alike] using h)
  | .tuple xs, h => by rw [noO]; exact noOL_alike xs (by simpa [W.alike] using h)
  | .dict _, h => by simp [W.alike] at h
theorem noOL_alike : ∀ ds : List PyData, W.alikeAll ds ds = true → noOL ds = true
  | [], _ => rfl
  | d :: ds, h => by
    rw [W.alikeAll, Bool.and_eq_true] at h
    rw [noOL, noO_alike d h.1, noOL_alike ds h.2]
    rfl
end
end
/-- upwards -/
abbrev leD : PyData → PyData → Bool := W.dataLe false id
def sortD (ds : List PyData) : List PyData := ds.mergeSort leD
def pSorted : PN := one fun x R => match x with
  | .list ds => W.AllAlike ds ∧ W.Sortable ds ∧ ds.length ≤ 1000000 ∧ (∀ d ∈ ds, d.depth ≤ 50) ∧ R (.list (sortD ds))
  | _ => False
section
variable {X : Cx}
theorem each_zip {K : PySem.W.Frag} {G : Hp} : ∀ {vs : List V} {us : List Value} {ds : List PyData}, Vals vs us → DnL K G vs ds → W.EachIs (fun u (b : V × PyData) => RelV b.1 u ∧ Dn K G b.1 b.2) us (vs.zip ds)
  | _, _, _, .nil, .nil => .nil
  | _, _, _, .cons r t, .cons a b => .cons ⟨r, a⟩ (each_zip t b)
theorem each_unzip {K : PySem.W.Frag} {G : Hp} : ∀ {us : List Value} {bs : List (V × PyData)}, W.EachIs (fun u (b : V × PyData) => RelV b.1 u ∧ Dn K G b.1 b.2) us bs → Vals (bs.map Prod.fst) us ∧ DnL K G (bs.map Prod.fst) (bs.map Prod.snd)
  | _, _, .nil => ⟨.nil, .nil⟩
  | _, _, .cons h t => ⟨.cons h.1 (each_unzip t).1, .cons h.2 (each_unzip t).2⟩
theorem zip_snd : ∀ {α β : Type} {vs : List α} {ds : List β}, vs.length = ds.length → (vs.zip ds).map Prod.snd = ds
  | _, _, [], [], _ => rfl
  | _, _, _ :: _, _ :: _, h => by
    rw [List.zip_cons_cons, List.map_cons, zip_snd (Nat.succ.inj h)]
theorem sort_snd (bs : List (V × PyData)) : (bs.mergeSort (W.dataLe false Prod.snd)).map Prod.snd = sortD (bs.map Prod.snd) :=
  List.map_mergeSort fun a _ b _ => rfl
theorem c_sorted (hu : X.A.units + 64 < cLine) : CallD X (.builtin "sorted") pSorted := by
  intro pins s σ H vs us Q I r ⟨B, G, δ, σ', ds, R, rel, b, q, k⟩
  match ds, q with
  | [d], q =>
    obtain ⟨v, rfl, bd⟩ := b.one
    cases d with
    | list xs =>
      obtain ⟨q1, q2, q3, q4, q⟩ := q
      obtain ⟨a, ws, rfl, ha, ta⟩ := bor_lst rel bd
      obtain ⟨u, rfl, ru⟩ := vals1 r
      cases ru
      obtain ⟨its, rv, hl, hz⟩ := I.list (SqL.of ha)
      have e0 := each_zip rv ta
      have ln : ws.length = xs.length := ta.len
      have es : (ws.zip xs).map Prod.snd = xs := zip_snd ln
      refine W.sorted_data (enc := Prod.snd) (bs := ws.zip xs) hl.isList e0 ((W.each_mem e0).mono fun u b ⟨hb, hm⟩ => (Dn.rdN I b.2 (noO_alike _ (q1 _ (by rw [← es]; exact List.mem_map.mpr ⟨b, hm, rfl⟩) _ (by rw [← es]; exact List.mem_map.mpr ⟨b, hm, rfl⟩))) (hb.2.mono rel.sg) hb.1).reads) (by rw [es]; exact q1) (by rw [es]; exact q2) ?_ ?_ ?_
      · rw [List.length_zip, ln, Nat.min_self]
        exact Nat.le_trans q3 (by decide)
      · intro b hb
        have := q4 b.2 (List.of_mem_zip hb).2
        omega
      · intro out ho eo
        obtain ⟨n, hn⟩ := sortedAll_at s.heap its (List.toArray out)
        obtain ⟨v1, d1⟩ := each_unzip eo
        have np : H (s.heap.objs.size + 1) = none := I.hok.fresh (Nat.le_succ _)
        rw [sort_snd, es] at d1
        generalize hb : (List.mergeSort (ws.zip xs) (W.dataLe false Prod.snd)).map Prod.fst = nb at v1 d1
        obtain ⟨rel3, s3⟩ := rel.laid (o := .lst nb) np
        have lb : nb.length ≤ sizeLine := by
          rw [← hb, List.length_map, List.length_mergeSort, List.length_zip, ln, Nat.min_self]
          exact Nat.le_trans q3 (by decide)
        exact ⟨.ref _, upd H _ (.lst nb), I.laid (o := .lst nb) (t' := s.toks) (fun _ _ => sortedAll_old) (Nat.le_succ _) ⟨lb, out, n, v1, hn⟩, rfl, k _ _ _ _ q s3 rel3 (Dn.lst upd_same (DnL.mono s3 _ d1))⟩
    | _ => exact False.elim q
end
omit [Tb] in
@[simp ↓] theorem pSorted_l (ds : List PyData) (R : PyData → Prop) : pSorted [.list ds] R = (W.AllAlike ds ∧ W.Sortable ds ∧ ds.length ≤ 1000000 ∧ (∀ d ∈ ds, d.depth ≤ 50) ∧ R (.list (sortD ds))) := rfl
end DL
set_option Elab.async false
set_option linter.all false
set_option maxRecDepth 100000
set_option maxHeartbeats 4000000
namespace DL
open PySem PySem.Spec PyProof.Rows L2
variable [Tb]
def pMaxS : PN := one fun x R => match x with
  | .list ds => ∃ ns : List Int, ds = ns.map PyData.int ∧ 0 < ns.length ∧ ∀ m, m ∈ ns → (∀ y ∈ ns, y ≤ m) → R (.int m)
  | .tuple ds => ∃ ns : List Int, ds = ns.map PyData.int ∧ 0 < ns.length ∧ ∀ m, m ∈ ns → (∀ y ∈ ns, y ≤ m) → R (.int m)
  | _ => False
def pMinS : PN := one fun x R => match x with
  | .list ds => ∃ ns : List Int, ds = ns.map PyData.int ∧ 0 < ns.length ∧ ∀ m, m ∈ ns → (∀ y ∈ ns, m ≤ y) → R (.int m)
  | .tuple ds => ∃ ns : List Int, ds = ns.map PyData.int ∧ 0 < ns.length ∧ ∀ m, m ∈ ns → (∀ y ∈ ns, m ≤ y) → R (.int m)
  | _ => False
theorem alike_ints (ns : List Int) : W.AlikeAll (ns.map PyData.int) := ⟨fun x hx y hy => by
  obtain ⟨a, _, rfl⟩ := List.mem_map.mp hx
  obtain ⟨b, _, rfl⟩ := List.mem_map.mp hy
  rfl, fun x hx => by
  obtain ⟨a, _, rfl⟩ := List.mem_map.mp hx
  intro h; cases h⟩
section
variable {X : Cx}
end
omit [Tb] in
@[simp ↓] theorem pMaxS_l (ds : List PyData) (R : PyData → Prop) : pMaxS [.list ds] R = onIs ds (fun ns => 0 < ns.length ∧ ∀ m, m ∈ ns → (∀ y ∈ ns, y ≤ m) → R (.int m)) .mk := rfl
omit [Tb] in
@[simp ↓] theorem pMinS_l (ds : List PyData) (R : PyData → Prop) : pMinS [.list ds] R = onIs ds (fun ns => 0 < ns.length ∧ ∀ m, m ∈ ns → (∀ y ∈ ns, m ≤ y) → R (.int m)) .mk := rfl
omit [Tb] in
@[simp ↓] theorem pMaxS_t (ds : List PyData) (R : PyData → Prop) : pMaxS [.tuple ds] R = onIs ds (fun ns => 0 < ns.length ∧ ∀ m, m ∈ ns → (∀ y ∈ ns, y ≤ m) → R (.int m)) .mk := rfl
omit [Tb] in
@[simp ↓] theorem pMinS_t (ds : List PyData) (R : PyData → Prop) : pMinS [.tuple ds] R = onIs ds (fun ns => 0 < ns.length ∧ ∀ m, m ∈ ns → (∀ y ∈ ns, m ≤ y) → R (.int m)) .mk := rfl
end DL
set_option Elab.async false
set_option linter.all false
set_option maxRecDepth 100000
set_option maxHeartbeats 4000000
namespace DL
open PySem PySem.Spec PyProof.Rows L2
variable [Tb]
def upSM (K : PySem.W.Frag) (i : Nat) (w : DTS) : TS := fun D σ H => ∃ B G δ E, Rel K B G δ σ H ∧ w E δ ∧ (∀ σ' H' G' δ', E.nx δ' → Same G G' → Rel K B G' δ' σ' H' → ∃ v, σ'[i]? = some (some v) ∧ D.rt v H') ∧ (∀ x δ', ¬ E.rt x δ') ∧ (∀ δ', ¬ E.bk δ') ∧ (∀ δ', ¬ E.ct δ')
abbrev JSsM (X : Cx) (i : Nat) (b : List Stmt) (w : DTS) : Prop := PSs X b (upSM X.K i w)
section
variable {X : Cx} {pos : Pos} {i : Nat}
theorem jsm_ret {x : Str} {px : Pos} (h : PE X (.Name x px) (tVar i)) : JSsM X i [.Return (some (.Name x px)) pos] wNext :=
  pss_le (pss_one (ps_ret h)) fun pins s σ H D I ⟨B, G, δ, E, rel, hw, k, _⟩ => by
    obtain ⟨v, hv, q⟩ := k σ H G δ hw (Same.refl _) rel
    exact ⟨v, hv, q⟩
theorem jsm_cons {st : Stmt} {rest : List Stmt} {w u : DTS} (h1 : JS X st w) (h2 : JSsM X i rest u) : JSsM X i (st :: rest) (wSeq w u) :=
  pss_le (pss_cons h1 h2) fun pins s σ H D I ⟨B, G, δ, E, rel, hw, k, n1, n2, n3⟩ =>
    ⟨B, G, δ, _, rel, hw, ⟨fun σ' H' G' δ' r sG rel' => ⟨B, G', δ', E, rel', r, fun σ2 H2 G2 δ2 r2 s2 rel2 => k σ2 H2 G2 δ2 r2 (sG.trans s2) rel2, n1, n2, n3⟩, fun v σ' H' G' x δ' r sG rel' dn => (n1 _ _ r).elim, fun σ' H' G' δ' r sG rel' => (n2 _ r).elim, fun σ' H' G' δ' r sG rel' => (n3 _ r).elim⟩⟩
end
def endsM (i : Nat) (cs : List Cell) (R : Cell → List Cell → Prop) : DEnds := { nx := fun δ => sameIo cs δ ∧ cs.length ≤ i ∧ ∃ a xs, δ[i]? = some (.ol a xs) ∧ R (.ol a xs) (outC cs δ), rt := fun _ _ => False }
section
variable {P : Program} {w : World} {K : PySem.W.Frag} {mg : Str → Option Value} {base : Heap}
theorem outC_take : ∀ {cs : List Cell} {δ : DS} {j : Nat} {c : Cell}, (outC cs δ)[j]? = some c → j < cs.length
  | [], _, _, _, h => by simp [outC] at h
  | c0 :: cs, [], _, _, h => by cases c0 <;> simp [outC] at h
  | c0 :: cs, e :: δ, 0, c, h => by simp
  | c0 :: cs, e :: δ, j + 1, c, h => by
    have h' : (outC cs δ)[j]? = some c := by cases c0 <;> simpa [outC] using h
    have := outC_take h'
    simp; omega
theorem okM {x qual : Str} {st : Stmt} {f : Addr} {fd : FuncData} {N ps : List Str} {k i : Nat} {sp : DSpM} {wb : DTS} (F : Fun K x qual st f fd) (S : FnScope N ps (defScope st)) (dl : ∀ cs R, sp cs R → cs.length = ps.length)
    (body : ∀ (cdv : Value) (A : Around) (outer : List Env) (s : Shared) (H : Hp) (E : XK), RoomG k (A.deeper (envOfC qual (defScope st) s.heap.objs.size f cdv)) → JSsM (cxOf CX0 P w K mg base N qual (defScope st) f cdv A outer s H E).nox i (defBody st) wb)
    (rd : ∀ cs R, sp cs R → wb (endsM i cs R) (start0 N.length cs)) : FnG P w K mg base CX0 (k + 1) f fd ps (liftM K sp) := by
  obtain ⟨oc, od, kV, doc, pm, an, cdv, ct, osl, rfl, lk, hcd⟩ := F.ex
  refine fnG_of lk hcd S (fun vs H Q E ⟨B, G, cs, R, rel, hs, _⟩ => by rw [← dl cs R hs, ← rel.len, List.length_map]) fun A outer s H vs Q E hr ⟨B, G, cs, R, rel, hs, kk⟩ => ?_
  refine ⟨_, (body cdv A outer s H E hr).nox, B, G, _, endsM i cs R, rel_start rel, rd cs R hs, ?_, fun _ _ h => h, fun _ h => h, fun _ h => h⟩
  rintro σ' H' G' δ' ⟨io, hi, a, xs, hδ, r⟩ sG rel'
  obtain ⟨o, hσ, ok⟩ := rel'.at hδ
  have ok' : CellOk K G' H' (.ol a xs) o := ok
  obtain ⟨rfl, ws, ha, t⟩ := ok
  refine ⟨.ref a, hσ, ?_⟩
  have fr := rel'.fr i _ a hδ (by simp [Cell.fp])
  have rel2 := rel_end rel rel' sG io
  refine kk (.ref a) H' G' (.ol a xs) _ r sG (rel2.more (fun b m => ?_) fun j c b e m mb => ?_) (fun b m => ?_) ok'
  · have : b = a := by simpa [Cell.fp] using m
    rw [this]; exact fr.1
  · have : b = a := by simpa [Cell.fp] using mb
    subst this
    have hj := outC_take e
    obtain ⟨c0, e0, q⟩ := outC_at io e
    have hd : δ'[j]? = some c := by
      rcases q with ⟨h, rfl⟩ | ⟨a, xs, ys, rfl, rfl, ed⟩ | ⟨a, b, d, rfl, rfl, ed⟩ | ⟨a, xs, ys, rfl, rfl, ed⟩ | ⟨a, n, xs, ys, rfl, rfl, ed⟩
      · rcases h with ⟨x, rfl⟩ | rfl | ⟨a, ns, rfl⟩ <;> cases m
      · exact ed
      · exact ed
      · exact ed
      · exact ed
    have := rel'.ap j i c _ b hd hδ m (by simp [Cell.fp])
    omega
  · have : b = a := by simpa [Cell.fp] using m
    rw [this]; exact fr.2
end
def wLstRg1 (w : DE) : DL := fun δ R => w δ fun o δ1 => use o δ1 fun x => asI x (fun n => -1000000 ≤ n ∧ n ≤ 1000000 ∧ R (nums 0 n.toNat) δ1) .mk
def wLstRg2 (w u : DE) : DL := fun δ R => w δ fun o δ1 => u δ1 fun o2 δ2 => use o δ2 fun x => use o2 δ2 fun y => asI x (fun m => asI y (fun n => (-1000000 ≤ m ∧ m ≤ 1000000 ∧ -1000000 ≤ n ∧ n ≤ 1000000) ∧ R (nums m (n - m).toNat) δ2) .mk) .mk
omit [Tb] in
@[simp ↓] theorem wLstRg1_ap (w : DE) (δ : DS) (R : List PyData → DS → Prop) : wLstRg1 w δ R = (w δ fun o δ1 => use o δ1 fun x => asI x (fun n => -1000000 ≤ n ∧ n ≤ 1000000 ∧ R (nums 0 n.toNat) δ1) .mk) := rfl
omit [Tb] in
@[simp ↓] theorem wLstRg2_ap (w u : DE) (δ : DS) (R : List PyData → DS → Prop) : wLstRg2 w u δ R = (w δ fun o δ1 => u δ1 fun o2 δ2 => use o δ2 fun x => use o2 δ2 fun y => asI x (fun m => asI y (fun n => (-1000000 ≤ m ∧ m ≤ 1000000 ∧ -1000000 ≤ n ∧ n ≤ 1000000) ∧ R (nums m (n - m).toNat) δ2) .mk) .mk) := rfl
section
variable {X : Cx} {pos : Pos}
def wPopA (i : Nat) (w : DE) : DE := fun δ R => isOl δ i ∧ w δ fun o δ1 => use o δ1 fun z => asI z (fun j => olC δ1[i]? (fun a xs => 0 ≤ j ∧ j < xs.length ∧ xs.length ≤ 1000000 ∧ onS xs[j.toNat]? (fun y => R (.d y) (δ1.set i (.ol a (xs.eraseIdx j.toNat)))) .mk) .mk) .mk
omit [Tb] in
@[simp ↓] theorem wPopA_ap (i : Nat) (w : DE) (δ : DS) (R : Opd → DS → Prop) : wPopA i w δ R = (isOl δ i ∧ w δ fun o δ1 => use o δ1 fun z => asI z (fun j => olC δ1[i]? (fun a xs => 0 ≤ j ∧ j < xs.length ∧ xs.length ≤ 1000000 ∧ onS xs[j.toNat]? (fun y => R (.d y) (δ1.set i (.ol a (xs.eraseIdx j.toNat)))) .mk) .mk) .mk) := rfl
end
def lsC (x : PyData) (k : List PyData → Prop) (_u : Stop k) : Prop := match x with
  | .list xs => k xs
  | _ => False
omit [Tb] in
@[simp ↓] theorem lsC_l (xs : List PyData) (k : List PyData → Prop) (u : Stop k) : lsC (.list xs) k u = k xs := rfl
def ixOf (ds : List PyData) (y : PyData) : Option Nat := ds.findIdx? fun z => PyData.eqv z y
def wIndex (w u : DE) : DE := fun δ R => w δ fun o δ1 => use o δ1 fun x => lsC x (fun _ => u δ1 fun o2 δ2 => use o δ2 fun x2 => use o2 δ2 fun y => lsC x2 (fun ds => SeqAt.shaped (.list ds) = true ∧ SeqAt.shaped y = true ∧ onS (ixOf ds y) (fun j => R (.d (.int (j : Nat))) δ2) .mk) .mk) .mk
omit [Tb] in
@[simp ↓] theorem wIndex_ap (w u : DE) (δ : DS) (R : Opd → DS → Prop) : wIndex w u δ R = (w δ fun o δ1 => use o δ1 fun x => lsC x (fun _ => u δ1 fun o2 δ2 => use o δ2 fun x2 => use o2 δ2 fun y => lsC x2 (fun ds => SeqAt.shaped (.list ds) = true ∧ SeqAt.shaped y = true ∧ onS (ixOf ds y) (fun j => R (.d (.int (j : Nat))) δ2) .mk) .mk) .mk) := rfl
section
variable {X : Cx} {pos : Pos}
end
end DL
set_option Elab.async false
set_option linter.all false
set_option maxRecDepth 100000
set_option maxHeartbeats 4000000
namespace DL
open PySem PySem.Spec PyProof.Rows L2
variable [Tb]
variable {g : DTG} {t : DT} {e : DE} {vs : List Nat} {xs : List PyData} {δ : DS}
theorem com_ofP {α : Type} {R : List PyData → DS → Prop} {u : Stop R} (d : α → PyData) (A : α → Prop) (P : DS → Prop) (h : P δ)
    (hs : ∀ x ∈ xs, ∀ (acc : List PyData) (δ : DS) (K : List PyData → DS → Prop), P δ → (∀ a δ', A a → P δ' → K (acc ++ [d a]) δ') → g x δ fun δ1 => t δ1 fun b δ2 => if b = true then e δ2 fun o δ3 => lk o δ3 fun y δ4 => K (acc ++ [y]) (wipeD δ4 vs) else K acc (wipeD δ2 vs))
    (k : ∀ (as : List α) δ', as.length = xs.length → (∀ a ∈ as, A a) → P δ' → R (as.map d) δ') : comC g t e vs xs [] δ R u := by
  refine com_inv (fun ys acc δ' => P δ' ∧ (∀ y ∈ ys, y ∈ xs) ∧ ∃ bs : List α, acc = bs.map d ∧ (∀ a ∈ bs, A a) ∧ bs.length + ys.length = xs.length) ⟨h, fun _ h => h, [], rfl, by simp, by simp⟩ ?_ ?_
  · rintro acc δ' ⟨hp, _, bs, rfl, ha, hl⟩
    exact k bs δ' (by simpa using hl) ha hp
  · rintro x ys acc δ' ⟨hp, hm, bs, rfl, ha, hl⟩ K hK
    refine hs x (hm x (List.mem_cons_self ..)) _ δ' K hp fun a δ2 qa qp => ?_
    have := hK (bs.map d ++ [d a]) δ2 ⟨qp, fun y hy => hm y (List.mem_cons_of_mem _ hy), bs ++ [a], by simp, fun b hb => ?_, by simp at hl ⊢; omega⟩
    · exact this
    · rcases List.mem_append.mp hb with q | q
      · exact ha b q
      · rw [List.mem_singleton.mp q]; exact qa
end DL
set_option Elab.async false
set_option linter.all false
set_option maxRecDepth 100000
set_option maxHeartbeats 4000000
namespace DL
open PySem PySem.Spec PyProof.Rows L2
variable [Tb]
mutual
theorem eq_of_eqv : ∀ (x y : PyData), W.alike x y = true → PyData.eqv x y = true → x = y
  | .none, y, h, e => by cases y <;> simp [W.alike] at h ⊢
  | .bool a, y, h, e => by cases y <;> simp [W.alike, PyData.eqv] at h e ⊢; exact e
  | .int a, y, h, e => by cases y <;> simp [W.alike, PyData.eqv] at h e ⊢; exact e
  | .str a, y, h, e => by cases y <;> simp [W.alike, PyData.eqv] at h e ⊢; exact e
  | .list xs, y, h, e => by
    cases y with
    | list ys => rw [eq_of_eqvAll xs ys (by simpa [W.alike] using h) (by simpa [PyData.eqv] using e)]
    | _ => simp [W.alike] at h
  | .tuple xs, y, h, e => by
    cases y with
    | tuple ys => rw [eq_of_eqvAll xs ys (by simpa [W.alike] using h) (by simpa [PyData.eqv] using e)]
    | _ => simp [W.alike] at h
  | .dict xs, y, h, e => by cases y <;> simp [W.alike] at h
theorem eq_of_eqvAll : ∀ (xs ys : List PyData), W.alikeAll xs ys = true → PyData.eqvAll xs ys = true → xs = ys
  | [], ys, h, e => by cases ys <;> simp [PyData.eqvAll] at e ⊢
  | x :: xs, ys, h, e => by
    cases ys with
    | nil => simp [PyData.eqvAll] at e
    | cons y ys =>
      rw [W.alikeAll, Bool.and_eq_true] at h
      rw [PyData.eqvAll, Bool.and_eq_true] at e
      rw [eq_of_eqv x y h.1 e.1, eq_of_eqvAll xs ys h.2 e.2]
end
theorem leD_eq (x y : PyData) : leD x y = !W.dataLt y x := rfl
theorem leD_trans (a b c : PyData) (h1 : leD a b = true) (h2 : leD b c = true) : leD a c = true := by
  rw [leD_eq] at *
  simp only [Bool.not_eq_true'] at *
  cases h : W.dataLt c a with
  | false => rfl
  | true =>
    rcases lex_negTrans (O := itemOrd) (W.keyToks c) (W.keyToks b) (W.keyToks a) h with q | q
    · have : W.dataLt c b = true := q
      rw [h2] at this; cases this
    · have : W.dataLt b a = true := q
      rw [h1] at this; cases this
theorem leD_total (a b : PyData) : (leD a b || leD b a) = true := by
  rw [leD_eq, leD_eq]
  cases h1 : W.dataLt b a <;> cases h2 : W.dataLt a b <;> try rfl
  have := lex_trans (O := itemOrd) _ _ _ h1 h2
  rw [lex_irrefl] at this; cases this
theorem leD_anti {a b : PyData} (h : W.alike a b = true) (h1 : leD a b = true) (h2 : leD b a = true) : a = b := by
  rw [leD_eq] at h1 h2
  simp only [Bool.not_eq_true'] at h1 h2
  have e := lex_total (O := itemOrd) _ _ h1 h2
  refine eq_of_eqv a b h ?_
  cases q : PyData.eqv a b with
  | true => rfl
  | false =>
    have := (W.toks_eqv a b h).2 q [] [.inl 5]
    rw [List.append_nil, e] at this
    have p := W.lex_pre (W.keyToks a) [] [.inl 5]
    rw [List.append_nil] at p
    rw [p, lex_irrefl] at this
    cases this
theorem sort_pw (ds : List PyData) : (sortD ds).Pairwise fun a b => leD a b = true := List.pairwise_mergeSort leD_trans leD_total ds
theorem sort_perm {xs ys : List PyData} (ha : W.AllAlike xs) (h : xs.Perm ys) : sortD xs = sortD ys := by
  have p1 : (sortD xs).Perm xs := List.mergeSort_perm _ _
  have p2 : (sortD ys).Perm ys := List.mergeSort_perm _ _
  refine List.Perm.eq_of_pairwise (le := fun a b => leD a b = true) (fun a b ma mb l1 l2 => ?_) (sort_pw xs) (sort_pw ys) (p1.trans (h.trans p2.symm))
  exact leD_anti (ha _ (p1.mem_iff.mp ma) _ (h.mem_iff.mpr (p2.mem_iff.mp mb))) l1 l2
end DL
set_option Elab.async false
set_option linter.all false
set_option maxRecDepth 100000
set_option maxHeartbeats 4000000
namespace TW
open PySem PySem.Spec PyProof.Rows L2 DL

def BIG : Int := 2 ^ 4000
theorem BIG_nat : BIG.natAbs = 2 ^ 4000 := by decide +kernel
theorem BIG_ge : 10 ^ 60 ≤ BIG := by decide +kernel
theorem log_big {i : Int} (h : i.natAbs ≤ BIG.natAbs) : i.natAbs.log2 ≤ 4000 := by
  rw [BIG_nat] at h
  by_cases h0 : i.natAbs = 0
  · rw [h0]; decide
  · have : i.natAbs.log2 < 4001 := (Nat.log2_lt h0).mpr (Nat.lt_of_le_of_lt h (Nat.pow_lt_pow_right (by decide) (by decide)))
    omega
theorem abs_big {i : Int} (h0 : -BIG ≤ i) (h1 : i ≤ BIG) : i.natAbs ≤ BIG.natAbs := by
  have := BIG_ge
  omega
theorem mul_big {i j : Int} (h0 : -BIG ≤ i) (h1 : i ≤ BIG) (h2 : -BIG ≤ j) (h3 : j ≤ BIG) : CMul i j ∨ CMulW i j := by
  refine .inr ?_
  have a := log_big (abs_big h0 h1)
  have b := log_big (abs_big h2 h3)
  unfold CMulW
  omega
theorem div_big {j : Int} (h0 : 0 < j) (h1 : j ≤ BIG) : 0 < j ∧ j.natAbs.log2 < 9000 := by
  have b := log_big (abs_big (i := j) (by omega) h1)
  exact ⟨h0, by omega⟩
/-- a side, a number of any use -/
def Pos (x : Int) : Prop := 1 ≤ x ∧ x ≤ BIG
theorem Pos.div {j : Int} (h : Pos j) : 0 < j ∧ j.natAbs.log2 < 9000 := div_big (by have := h.1; omega) h.2
theorem Pos.of {x : Int} (h : 1 ≤ x) (h1 : x ≤ 10 ^ 60) : Pos x := ⟨h, by have := BIG_ge; omega⟩

def gcdI (a b : Int) : Int := (Int.gcd a b : Nat)
theorem gcd_step {x y : Int} : gcdI y (x % y) = gcdI x y := by
  unfold gcdI
  congr 1
  rw [Int.gcd_comm x y]
  have : x % y = x - y * (x / y) := by have := Int.mul_ediv_add_emod x y; omega
  rw [this, Int.gcd_comm, Int.mul_comm, Int.gcd_sub_mul_right_left, Int.gcd_comm]
theorem gcd_le {a b : Int} (ha : 1 ≤ a) : 1 ≤ gcdI a b ∧ gcdI a b ≤ a := by
  have h1 : (Int.gcd a b : Int) ∣ a := Int.gcd_dvd_left ..
  have h0 : 0 < Int.gcd a b := Int.gcd_pos_of_ne_zero_left _ (by omega)
  have := Int.le_of_dvd (by omega) h1
  unfold gcdI
  omega
theorem gcd_dvd_l (a b : Int) : gcdI a b ∣ a := Int.gcd_dvd_left ..
theorem gcd_dvd_r (a b : Int) : gcdI a b ∣ b := Int.gcd_dvd_right ..
theorem gcdI_comm (a b : Int) : gcdI a b = gcdI b a := by unfold gcdI; rw [Int.gcd_comm]
def invGo : Nat → Int → Int → Int → Int → Int
  | 0, _, _, _, later => later
  | f + 1, left, right, now, later => if left > 0 then invGo f (right - right / left * left) left (later - right / left * now) now else later
def invF (a b : Int) : Int := invGo (a % b).toNat.succ (a % b) b 1 0 % b
theorem sub_div (r l : Int) : r - r / l * l = r % l := by have := Int.mul_ediv_add_emod r l; rw [Int.mul_comm l] at this; omega
theorem inv_go {a b : Int} : ∀ (f : Nat) (l r n t : Int), 0 ≤ l → 0 ≤ r → l.toNat < f → b ∣ l - n * a → b ∣ r - t * a → gcdI l r = 1 → b ∣ 1 - invGo f l r n t * a
  | 0, l, r, n, t, _, _, h, _, _, _ => by omega
  | f + 1, l, r, n, t, h0, h1, hf, d1, d2, hg => by
    unfold invGo
    split
    · rename_i hl
      refine inv_go f _ _ _ _ ?_ h0 ?_ ?_ d1 ?_
      · rw [sub_div]; exact Int.emod_nonneg _ (by omega)
      · rw [sub_div]
        have := Int.emod_lt_of_pos r hl
        have := Int.emod_nonneg r (show l ≠ 0 by omega)
        omega
      · have e : r - r / l * l - (t - r / l * n) * a = (r - t * a) - r / l * (l - n * a) := by
          generalize r / l = q
          rw [Int.sub_mul, Int.mul_sub, Int.mul_assoc]; omega
        rw [e]
        exact Int.dvd_sub d2 (Int.dvd_mul_of_dvd_right d1)
      · rw [sub_div, gcdI_comm, gcd_step, gcdI_comm, hg]
    · rename_i hl
      have : l = 0 := by omega
      subst this
      have : r = 1 := by unfold gcdI at hg; simp at hg; omega
      subst this
      exact d2
theorem inv_ok {a b : Int} (hb : 1 ≤ b) (hg : gcdI a b = 1) : 0 ≤ invF a b ∧ invF a b < b ∧ b ∣ 1 - invF a b * a := by
  unfold invF
  refine ⟨Int.emod_nonneg _ (by omega), Int.emod_lt_of_pos _ (by omega), ?_⟩
  have h0 : 0 ≤ a % b := Int.emod_nonneg _ (by omega)
  have h := inv_go (a := a) (b := b) (a % b).toNat.succ (a % b) b 1 0 h0 (by omega) (by omega) ?_ ?_ ?_
  · generalize invGo _ _ _ _ _ = v at h
    have e : 1 - v % b * a = (1 - v * a) + b * (v / b * a) := by
      have := Int.mul_ediv_add_emod v b
      have e2 : v * a = (b * (v / b) + v % b) * a := by rw [this]
      rw [Int.add_mul, Int.mul_assoc] at e2
      omega
    rw [e]
    exact Int.dvd_add h (Int.dvd_mul_right ..)
  · rw [Int.one_mul]
    have : a % b - a = b * (-(a / b)) := by
      have := Int.mul_ediv_add_emod a b
      rw [Int.mul_neg]; omega
    rw [this]; exact Int.dvd_mul_right ..
  · simp
  · rw [gcdI_comm, gcd_step, hg]
def timesF (a b s : Int) : Option Int := if s % gcdI a b ≠ 0 then none else some (s / gcdI a b * invF (a / gcdI a b) (b / gcdI a b) % (b / gcdI a b))
theorem gcd_parts {a b : Int} (ha : 1 ≤ a) : gcdI (a / gcdI a b) (b / gcdI a b) = 1 := by
  have := gcd_le (b := b) ha
  unfold gcdI at this ⊢
  have h := Int.gcd_ediv_gcd_ediv_gcd (i := a) (j := b) (by omega)
  omega
theorem mul_cancel_dvd {g x y : Int} (hg : g ≠ 0) (h : g * x ∣ g * y) : x ∣ y := by
  obtain ⟨k, hk⟩ := h
  exact ⟨k, Int.eq_of_mul_eq_mul_left hg (by rw [hk, Int.mul_assoc])⟩
theorem dvd_of_coprime {a b c : Int} (hb : 1 ≤ b) (hg : gcdI a b = 1) (h : b ∣ a * c) : b ∣ c := by
  obtain ⟨_, _, d⟩ := inv_ok hb hg
  have e : c = (1 - invF a b * a) * c + invF a b * (a * c) := by
    rw [Int.sub_mul, Int.one_mul, Int.mul_assoc]; omega
  rw [e]
  exact Int.dvd_add (Int.dvd_mul_of_dvd_left d) (Int.dvd_mul_of_dvd_right h)
theorem times_none {a b s : Int} : timesF a b s = none ↔ ¬ gcdI a b ∣ s := by
  unfold timesF
  rw [Int.dvd_iff_emod_eq_zero]
  by_cases h : s % gcdI a b = 0 <;> simp [h]
/-- what is told as the least number of times -/
theorem times_some {a b s t : Int} (ha : 1 ≤ a) (hb : 1 ≤ b) (h : timesF a b s = some t) : gcdI a b ∣ s ∧ 0 ≤ t ∧ t < b / gcdI a b ∧ b ∣ s - a * t := by
  unfold timesF at h
  split at h
  · cases h
  rename_i hs
  have hs : gcdI a b ∣ s := Int.dvd_of_emod_eq_zero (by simpa using hs)
  have h := Option.some.inj h
  obtain ⟨g0, g1⟩ := gcd_le (b := b) ha
  have gp := gcd_parts (b := b) ha
  obtain ⟨a', ea⟩ := gcd_dvd_l a b
  obtain ⟨b', eb⟩ := gcd_dvd_r a b
  obtain ⟨s', es⟩ := hs
  generalize gcdI a b = g at *
  have qa : a / g = a' := by rw [ea]; exact Int.mul_ediv_cancel_left _ (by omega)
  have qb : b / g = b' := by rw [eb]; exact Int.mul_ediv_cancel_left _ (by omega)
  have qs : s / g = s' := by rw [es]; exact Int.mul_ediv_cancel_left _ (by omega)
  rw [qa, qb] at gp
  rw [qa, qb, qs] at h
  have hb' : 1 ≤ b' := by
    have : 0 < b' := Int.pos_of_mul_pos_right (a := g) (b := b') (by rw [← eb]; omega) (by omega)
    omega
  obtain ⟨i0, i1, di⟩ := inv_ok hb' gp
  rw [qb]
  refine ⟨⟨s', es⟩, by rw [← h]; exact Int.emod_nonneg _ (by omega), by rw [← h]; exact Int.emod_lt_of_pos _ (by omega), ?_⟩
  rw [ea, eb, es, ← h]
  have e : g * s' - g * a' * (s' * invF a' b' % b') = g * ((1 - invF a' b' * a') * s' + b' * (a' * (s' * invF a' b' / b'))) := by
    have := Int.mul_ediv_add_emod (s' * invF a' b') b'
    generalize s' * invF a' b' / b' = q at *
    generalize s' * invF a' b' % b' = r at *
    have : r = s' * invF a' b' - b' * q := by omega
    rw [this]
    generalize invF a' b' = v
    simp only [Int.mul_sub, Int.mul_add, Int.sub_mul, Int.one_mul, Int.mul_assoc]
    have x1 : g * (a' * (s' * v)) = g * (v * (a' * s')) := by
      rw [Int.mul_comm s' v, Int.mul_left_comm a' v s']
    have x2 : g * (a' * (b' * q)) = g * (b' * (a' * q)) := by rw [Int.mul_left_comm a' b' q]
    omega
  rw [e]
  exact Int.mul_dvd_mul_left g (Int.dvd_add (Int.dvd_mul_of_dvd_left di) (Int.dvd_mul_right ..))
/-- .. and that is the least one -/
theorem times_least {a b s t x : Int} (ha : 1 ≤ a) (hb : 1 ≤ b) (h : timesF a b s = some t) (h0 : 0 ≤ x) (hx : b ∣ s - a * x) : t ≤ x ∧ (b / gcdI a b) ∣ x - t := by
  obtain ⟨hs, t0, t1, dt⟩ := times_some ha hb h
  obtain ⟨g0, g1⟩ := gcd_le (b := b) ha
  have gp := gcd_parts (b := b) ha
  obtain ⟨a', ea⟩ := gcd_dvd_l a b
  obtain ⟨b', eb⟩ := gcd_dvd_r a b
  generalize gcdI a b = g at *
  have qa : a / g = a' := by rw [ea]; exact Int.mul_ediv_cancel_left _ (by omega)
  have qb : b / g = b' := by rw [eb]; exact Int.mul_ediv_cancel_left _ (by omega)
  rw [qa, qb] at gp
  rw [qb] at t1 ⊢
  have hb' : 1 ≤ b' := by omega
  have d : b ∣ a * (x - t) := by
    have := Int.dvd_sub dt hx
    have e : s - a * t - (s - a * x) = a * (x - t) := by rw [Int.mul_sub]; omega
    rwa [e] at this
  rw [ea, eb, Int.mul_assoc] at d
  have d' := dvd_of_coprime hb' gp (mul_cancel_dvd (by omega) d)
  refine ⟨?_, d'⟩
  obtain ⟨k, hk⟩ := d'
  by_cases c : t ≤ x
  · exact c
  · exfalso
    have hk0 : k < 0 := by
      by_cases q : 0 ≤ k
      · have := Int.mul_nonneg (show 0 ≤ b' by omega) q
        omega
      · omega
    have : b' * k ≤ b' * (-1) := Int.mul_le_mul_of_nonneg_left (by omega) (by omega)
    omega
/-- is a side a sum of some of both -/
def isSum (a b s : Int) : Bool := match timesF a b s with
  | some t => decide (a * t ≤ s)
  | none => false
theorem isSum_iff {a b s : Int} (ha : 1 ≤ a) (hb : 1 ≤ b) : isSum a b s = true ↔ ∃ x y : Int, 0 ≤ x ∧ 0 ≤ y ∧ a * x + b * y = s := by
  unfold isSum
  cases h : timesF a b s with
  | none =>
    rw [times_none] at h
    simp only [Bool.false_eq_true, false_iff]
    rintro ⟨x, y, _, _, rfl⟩
    exact h (Int.dvd_add (Int.dvd_mul_of_dvd_left (gcd_dvd_l ..)) (Int.dvd_mul_of_dvd_left (gcd_dvd_r ..)))
  | some t =>
    obtain ⟨hs, t0, t1, dt⟩ := times_some ha hb h
    simp only [decide_eq_true_eq]
    constructor
    · intro hle
      obtain ⟨y, hy⟩ := dt
      refine ⟨t, y, t0, ?_, by omega⟩
      by_cases q : 0 ≤ y
      · exact q
      · have : b * y ≤ b * (-1) := Int.mul_le_mul_of_nonneg_left (by omega) (by omega)
        omega
    · rintro ⟨x, y, hx, hy, rfl⟩
      have q := (times_least ha hb h hx ⟨y, by omega⟩).1
      have := Int.mul_le_mul_of_nonneg_left q (show 0 ≤ a by omega)
      have := Int.mul_nonneg (show 0 ≤ b by omega) hy
      omega
end TW
set_option Elab.async false
set_option linter.all false
set_option maxRecDepth 100000
set_option maxHeartbeats 4000000
namespace TW
open PySem PySem.Spec PyProof.Rows L2 DL

mutual
/-- about as long as it is shown -/
def wgt : PyData → Nat
  | .none => 8
  | .bool _ => 8
  | .int i => i.natAbs.log2 + 9
  | .str x => (PyData.shown (.str x)).length
  | .list xs => wgtL xs + 4
  | .tuple xs => wgtL xs + 4
  | .dict _ => 4
def wgtL : List PyData → Nat
  | [] => 0
  | x :: xs => wgt x + 2 + wgtL xs
end
mutual
def okd (z : Bool) : PyData → Bool
  | .none => true
  | .bool _ => true
  | .int i => decide (i.natAbs.log2 < (if z = true then 1900 else 1800))
  | .str x => PyData.strOk x
  | .list xs => okdL z xs
  | .tuple xs => okdL z xs
  | .dict kvs => z && kvs.isEmpty
def okdL (z : Bool) : List PyData → Bool
  | [] => true
  | x :: xs => okd z x && okdL z xs
end
structure Shp (z : Bool) (n w : Nat) (d : PyData) : Prop where
  ok : okd z d = true
  dp : d.depth ≤ n
  wt : wgt d ≤ w
structure ShpL (z : Bool) (n w : Nat) (xs : List PyData) : Prop where
  ok : okdL z xs = true
  dp : PyData.depthAll xs ≤ n
  wt : wgtL xs ≤ w
theorem Shp.mono {z : Bool} {n m w v : Nat} {d : PyData} (h : Shp z n w d) (hn : n ≤ m) (hw : w ≤ v) : Shp z m v d := ⟨h.ok, Nat.le_trans h.dp hn, Nat.le_trans h.wt hw⟩
theorem ShpL.nil {z : Bool} {n : Nat} : ShpL z n 0 [] := ⟨by simp [okdL], by simp [PyData.depthAll], by simp [wgtL]⟩
theorem ShpL.cons {z : Bool} {n w v : Nat} {x : PyData} {xs : List PyData} (h : Shp z n w x) (t : ShpL z n v xs) : ShpL z n (w + 2 + v) (x :: xs) :=
  ⟨by simp [okdL, h.ok, t.ok], by have := h.dp; have := t.dp; simp [PyData.depthAll]; omega, by have := h.wt; have := t.wt; simp only [wgtL]; omega⟩
theorem ShpL.of {z : Bool} {n w : Nat} : ∀ {xs : List PyData}, (∀ x ∈ xs, Shp z n w x) → ShpL z n (xs.length * (w + 2)) xs
  | [], _ => by simpa using ShpL.nil
  | x :: xs, h => by
    have := ShpL.cons (h x (List.mem_cons_self ..)) (ShpL.of fun y hy => h y (List.mem_cons_of_mem _ hy))
    have e : w + 2 + xs.length * (w + 2) = (x :: xs).length * (w + 2) := by rw [List.length_cons, Nat.succ_mul]; omega
    rw [e] at this; exact this
theorem ShpL.map {α : Type} {z : Bool} {n w k : Nat} {as : List α} {f : α → PyData} (h : ∀ a ∈ as, Shp z n w (f a)) (hk : as.length ≤ k) : ShpL z n (k * (w + 2)) (as.map f) := by
  have := ShpL.of (xs := as.map f) (z := z) (n := n) (w := w) fun x hx => by
    obtain ⟨a, ha, rfl⟩ := List.mem_map.mp hx
    exact h a ha
  rw [List.length_map] at this
  exact ⟨this.ok, this.dp, Nat.le_trans this.wt (Nat.mul_le_mul_right _ hk)⟩
theorem ShpL.mono {z : Bool} {n m w v : Nat} {d : List PyData} (h : ShpL z n w d) (hn : n ≤ m) (hw : w ≤ v) : ShpL z m v d := ⟨h.ok, Nat.le_trans h.dp hn, Nat.le_trans h.wt hw⟩
theorem okdL_app {z : Bool} : ∀ (xs ys : List PyData), okdL z (xs ++ ys) = (okdL z xs && okdL z ys)
  | [], ys => by simp [okdL]
  | x :: xs, ys => by simp [okdL, okdL_app xs ys, Bool.and_assoc]
theorem depthAll_app : ∀ (xs ys : List PyData), PyData.depthAll (xs ++ ys) = max (PyData.depthAll xs) (PyData.depthAll ys)
  | [], ys => by simp [PyData.depthAll]
  | x :: xs, ys => by simp only [List.cons_append, PyData.depthAll, depthAll_app xs ys]; omega
theorem wgtL_app : ∀ (xs ys : List PyData), wgtL (xs ++ ys) = wgtL xs + wgtL ys
  | [], ys => by simp [wgtL]
  | x :: xs, ys => by simp [wgtL, wgtL_app xs ys]; omega
theorem ShpL.app {z : Bool} {n w v : Nat} {xs ys : List PyData} (h : ShpL z n w xs) (t : ShpL z n v ys) : ShpL z n (w + v) (xs ++ ys) :=
  ⟨by rw [okdL_app, h.ok, t.ok]; rfl, by rw [depthAll_app]; have := h.dp; have := t.dp; omega, by rw [wgtL_app]; have := h.wt; have := t.wt; omega⟩
theorem Shp.list {z : Bool} {n w : Nat} {xs : List PyData} (h : ShpL z n w xs) : Shp z (n + 1) (w + 4) (.list xs) :=
  ⟨by simp only [okd]; exact h.ok, by simp only [PyData.depth]; have := h.dp; omega, by simp only [wgt]; have := h.wt; omega⟩
theorem Shp.tuple {z : Bool} {n w : Nat} {xs : List PyData} (h : ShpL z n w xs) : Shp z (n + 1) (w + 4) (.tuple xs) :=
  ⟨by simp only [okd]; exact h.ok, by simp only [PyData.depth]; have := h.dp; omega, by simp only [wgt]; have := h.wt; omega⟩
theorem Shp.none {z : Bool} {n : Nat} : Shp z n 8 .none := ⟨by simp [okd], by simp [PyData.depth], by simp [wgt]⟩
theorem Shp.bool {z : Bool} {n : Nat} {b : Bool} : Shp z n 8 (.bool b) := ⟨by simp [okd], by simp [PyData.depth], by simp [wgt]⟩
theorem Shp.intB {z : Bool} {n k : Nat} {i : Int} (h : i.natAbs.log2 ≤ k) (hk : k < 1800) : Shp z n (k + 9) (.int i) := ⟨by simp [okd]; split <;> omega, by simp [PyData.depth], by simp [wgt]; omega⟩
theorem log_le {i : Int} {k : Nat} (h0 : -(2 ^ k) < i) (h1 : i < 2 ^ k) : i.natAbs.log2 ≤ k := by
  by_cases z : i = 0
  · subst z; simp
  · have e : ((2 ^ k : Nat) : Int) = 2 ^ k := by simp
    have : i.natAbs < 2 ^ k := by omega
    have := (Nat.log2_lt (by omega)).mpr this
    omega
theorem Shp.int64 {z : Bool} {n : Nat} {i : Int} (h0 : -(2 ^ 64) < i) (h1 : i < 2 ^ 64) : Shp z n 73 (.int i) := Shp.intB (log_le h0 h1) (by decide)
theorem Shp.str {z : Bool} {n w : Nat} {x : Str} (h : PyData.strOk x = true) (hw : (PyData.shown (.str x)).length ≤ w) : Shp z n w (.str x) := ⟨by simp [okd, h], by simp [PyData.depth], by simp only [wgt]; exact hw⟩
theorem Shp.up {n w : Nat} {d : PyData} (h : Shp false n w d) : Shp true n w d := by
  have a : ∀ xs : List PyData, (∀ x ∈ xs, okd false x = true → okd true x = true) → okdL false xs = true → okdL true xs = true := by
    intro xs
    induction xs with
    | nil => intros; simp [okdL]
    | cons x xs ih =>
      intro h k
      simp only [okdL, Bool.and_eq_true] at k ⊢
      exact ⟨h x (List.mem_cons_self ..) k.1, ih (fun y hy => h y (List.mem_cons_of_mem _ hy)) k.2⟩
  refine ⟨?_, h.dp, h.wt⟩
  have := h.ok
  clear h
  revert this
  exact PyData.rec (motive_1 := fun d => okd false d = true → okd true d = true) (motive_2 := fun xs => okdL false xs = true → okdL true xs = true) (motive_3 := fun _ => True) (motive_4 := fun _ => True)
    (by simp [okd]) (by simp [okd]) (fun i h => by simp [okd] at h ⊢; omega) (by simp [okd]) (fun xs ih h => by simp only [okd] at h ⊢; exact ih h) (fun xs ih h => by simp only [okd] at h ⊢; exact ih h) (fun kvs _ h => by simp [okd] at h)
    (by simp [okdL]) (fun x xs h1 h2 h => by simp only [okdL, Bool.and_eq_true] at h ⊢; exact ⟨h1 h.1, h2 h.2⟩) trivial (fun _ _ _ _ => trivial) (fun _ _ _ _ => trivial) d

theorem okd_lay {z : Bool} (hz : z = false) (d : PyData) : okd z d = true → d.canLay0 = true := by
  subst hz
  exact PyData.rec (motive_1 := fun d => okd false d = true → d.canLay0 = true) (motive_2 := fun xs => okdL false xs = true → PyData.canLayAll0 xs = true) (motive_3 := fun _ => True) (motive_4 := fun _ => True)
    (by simp [PyData.canLay0]) (by simp [PyData.canLay0]) (by simp [PyData.canLay0]) (by simp [okd, PyData.canLay0]) (fun xs ih h => by simp only [okd] at h; simp only [PyData.canLay0]; exact ih h) (fun xs ih h => by simp only [okd] at h; simp only [PyData.canLay0]; exact ih h) (fun kvs _ h => by simp [okd] at h)
    (by simp [PyData.canLayAll0]) (fun x xs h1 h2 h => by simp only [okdL, Bool.and_eq_true] at h; simp only [PyData.canLayAll0, Bool.and_eq_true]; exact ⟨h1 h.1, h2 h.2⟩) trivial (fun _ _ _ _ => trivial) (fun _ _ _ _ => trivial) d
theorem okd_show {z : Bool} (d : PyData) : okd z d = true → d.showable = true := by
  exact PyData.rec (motive_1 := fun d => okd z d = true → d.showable = true) (motive_2 := fun xs => okdL z xs = true → PyData.showableAll xs = true) (motive_3 := fun _ => True) (motive_4 := fun _ => True)
    (by simp [PyData.showable]) (by simp [PyData.showable]) (fun i h => by simp only [okd, decide_eq_true_eq] at h; simp only [PyData.showable, decide_eq_true_eq]; split at h <;> omega) (by simp [PyData.showable]) (fun xs ih h => by simp only [okd] at h; simp only [PyData.showable]; exact ih h) (fun xs ih h => by simp only [okd] at h; simp only [PyData.showable]; exact ih h)
    (fun kvs _ h => by
      simp only [okd, Bool.and_eq_true] at h
      have : kvs = [] := by simpa using h.2
      subst this
      simp [PyData.showable, PyData.showableKv])
    (by simp [PyData.showableAll]) (fun x xs h1 h2 h => by simp only [okdL, Bool.and_eq_true] at h; simp only [PyData.showableAll, Bool.and_eq_true]; exact ⟨h1 h.1, h2 h.2⟩) trivial (fun _ _ _ _ => trivial) (fun _ _ _ _ => trivial) d
def lens (xs : List PyData) : Nat := (xs.map fun x => x.shown.length + 2).sum
theorem piled_lens : ∀ xs : List PyData, piled (xs.map PyData.shown) = lens xs
  | [] => by simp [piled, lens]
  | x :: xs => by
    have := piled_lens xs
    simp only [List.map_cons, piled, lens, List.sum_cons] at *
    omega
theorem textFrom_lens : ∀ (xs : List PyData) (k : Nat) (acc : Str), (textFrom k acc (xs.map PyData.shown)).length ≤ acc.length + lens xs
  | [], k, acc => by simp [textFrom, lens]
  | x :: r, k, acc => by
    have ih := textFrom_lens r (k + 1) (acc ++ (if k > 0 then ", " else "" : String) ++ x.shown)
    have e : (acc ++ (if k > 0 then ", " else "" : String) ++ x.shown).length ≤ acc.length + 2 + x.shown.length := by
      rw [strLen_append, strLen_append]
      split
      · have : ((", " : String) : Str).length = 2 := rfl
        omega
      · have : (("" : String) : Str).length = 0 := rfl
        omega
    show (textFrom (k + 1) _ (r.map PyData.shown)).length ≤ _
    simp only [lens, List.map_cons, List.sum_cons] at ih ⊢
    omega
theorem okd_len {z : Bool} (d : PyData) : okd z d = true → d.shown.length ≤ wgt d := by
  refine PyData.rec (motive_1 := fun d => okd z d = true → d.shown.length ≤ wgt d) (motive_2 := fun xs => okdL z xs = true → lens xs ≤ wgtL xs) (motive_3 := fun _ => True) (motive_4 := fun _ => True)
    ?_ ?_ ?_ ?_ ?_ ?_ ?_ ?_ ?_ trivial (fun _ _ _ _ => trivial) (fun _ _ _ _ => trivial) d
  · intro _; simp only [PyData.shown, wgt]; decide
  · intro b _; cases b <;> (simp only [PyData.shown, wgt]; decide)
  · intro i h
    have := int_text_length_le (show 0 < i.natAbs.log2 + 1 by omega) (show i.natAbs.log2 < i.natAbs.log2 + 1 by omega)
    simp only [PyData.shown, wgt]
    show (Str.ofString (toString i)).length ≤ _
    rw [PySem.ofString_length]
    omega
  · intro x _; simp only [wgt]; exact Nat.le_refl _
  · intro xs ih h
    have ih := ih (by simpa only [okd] using h)
    simp only [PyData.shown, shownAll_map, wgt]
    unfold listText
    rw [strLen_append]
    have q := textFrom_lens xs 0 "["
    have e1 : (("[" : String) : Str).length = 1 := rfl
    have e2 : (("]" : String) : Str).length = 1 := rfl
    omega
  · intro xs ih h
    have ih := ih (by simpa only [okd] using h)
    simp only [PyData.shown, shownAll_map, wgt]
    unfold tupleText
    rw [strLen_append, strLen_append]
    have e1 : (("(" : String) : Str).length = 1 := rfl
    have e2 : ((if (xs.map PyData.shown).length == 1 then ",)" else ")" : String) : Str).length ≤ 2 := by split <;> decide
    have j : (Str.join ", " (xs.map PyData.shown)).length ≤ piled (xs.map PyData.shown) := by
      by_cases z : xs.map PyData.shown = []
      · rw [z]; decide
      · have := join_length_add _ z; omega
    rw [piled_lens] at j
    omega
  · intro kvs _ h
    simp only [okd, Bool.and_eq_true] at h
    have : kvs = [] := by simpa using h.2
    subst this
    simp only [PyData.shown, wgt]
    decide
  · intro _; simp [lens, wgtL]
  · intro x xs h1 h2 h
    simp only [okdL, Bool.and_eq_true] at h
    have h1 := h1 h.1
    have h2 := h2 h.2
    simp only [lens, List.map_cons, List.sum_cons, wgtL] at *
    omega
theorem Shp.shaped {n w : Nat} {d : PyData} (h : Shp false n w d) (hn : n ≤ 60 := by decide) : SeqAt.shaped d = true := by
  have := okd_lay rfl d h.ok
  simp only [SeqAt.shaped, this, Bool.true_and, decide_eq_true_eq]
  have := h.dp
  omega
theorem Shp.repr {z : Bool} {n w : Nat} {d : PyData} {X : Prop} (h : Shp z n w d) (k : X) (hn : n ≤ 60 := by decide) (hw : w ≤ 16000000 := by decide) : d.showable = true ∧ d.depth ≤ 60 ∧ d.shown.length ≤ 16000000 ∧ X :=
  ⟨okd_show d h.ok, Nat.le_trans h.dp hn, Nat.le_trans (okd_len d h.ok) (Nat.le_trans h.wt hw), k⟩
theorem okdL_iff {z : Bool} : ∀ {xs : List PyData}, okdL z xs = true ↔ ∀ x ∈ xs, okd z x = true
  | [] => by simp [okdL]
  | x :: xs => by simp [okdL, okdL_iff (xs := xs)]
theorem depthL_iff {n : Nat} : ∀ {xs : List PyData}, PyData.depthAll xs ≤ n ↔ ∀ x ∈ xs, x.depth ≤ n
  | [] => by simp [PyData.depthAll]
  | x :: xs => by
    simp only [PyData.depthAll, List.forall_mem_cons, ← depthL_iff (xs := xs)]
    omega
theorem wgtL_mem : ∀ {xs : List PyData} {x : PyData}, x ∈ xs → wgt x + 2 ≤ wgtL xs
  | y :: ys, x, h => by
    simp only [wgtL]
    rcases List.mem_cons.mp h with rfl | h
    · omega
    · have := wgtL_mem h; omega
theorem wgtL_take : ∀ (xs : List PyData) (n : Nat), wgtL (xs.take n) ≤ wgtL xs
  | [], n => by simp
  | x :: xs, 0 => by simp [wgtL]
  | x :: xs, n + 1 => by have := wgtL_take xs n; simp only [List.take_succ_cons, wgtL]; omega
theorem wgtL_drop : ∀ (xs : List PyData) (n : Nat), wgtL (xs.drop n) ≤ wgtL xs
  | [], n => by simp
  | x :: xs, 0 => by simp
  | x :: xs, n + 1 => by have := wgtL_drop xs n; simp only [List.drop_succ_cons, wgtL]; omega
theorem wgtL_rev : ∀ (xs : List PyData), wgtL xs.reverse = wgtL xs
  | [] => rfl
  | x :: xs => by rw [List.reverse_cons, wgtL_app, wgtL_rev xs]; simp [wgtL]; omega
theorem ShpL.part {z : Bool} {n w : Nat} {xs ys : List PyData} (h : ShpL z n w xs) (hm : ∀ y ∈ ys, y ∈ xs) (hw : wgtL ys ≤ wgtL xs) : ShpL z n w ys :=
  ⟨okdL_iff.mpr fun y hy => okdL_iff.mp h.ok y (hm y hy), depthL_iff.mpr fun y hy => depthL_iff.mp h.dp y (hm y hy), Nat.le_trans hw h.wt⟩
theorem ShpL.take {z : Bool} {n w : Nat} {xs : List PyData} (h : ShpL z n w xs) (k : Nat) : ShpL z n w (xs.take k) := h.part (fun _ hy => List.mem_of_mem_take hy) (wgtL_take _ _)
theorem ShpL.drop {z : Bool} {n w : Nat} {xs : List PyData} (h : ShpL z n w xs) (k : Nat) : ShpL z n w (xs.drop k) := h.part (fun _ hy => List.mem_of_mem_drop hy) (wgtL_drop _ _)
theorem ShpL.rev {z : Bool} {n w : Nat} {xs : List PyData} (h : ShpL z n w xs) : ShpL z n w xs.reverse := h.part (fun _ hy => List.mem_reverse.mp hy) (by rw [wgtL_rev]; exact Nat.le_refl _)
theorem ShpL.cut {z : Bool} {n w : Nat} {xs : List PyData} (h : ShpL z n w xs) (lo hi : Option Int) : ShpL z n w (DL.cutD xs lo hi) := by
  unfold DL.cutD
  exact (h.drop _).take _
theorem ShpL.mem {z : Bool} {n w : Nat} {xs : List PyData} (h : ShpL z n w xs) {x : PyData} (hx : x ∈ xs) : Shp z n w x :=
  ⟨okdL_iff.mp h.ok x hx, depthL_iff.mp h.dp x hx, by have := wgtL_mem hx; have := h.wt; omega⟩
theorem Shp.items {z : Bool} {n w : Nat} {xs : List PyData} (h : Shp z (n + 1) w (.tuple xs)) : ShpL z n w xs :=
  ⟨by have := h.ok; simpa only [okd] using this, by have := h.dp; simp only [PyData.depth] at this; omega, by have := h.wt; simp only [wgt] at this; omega⟩
theorem Shp.pos {z : Bool} {n w : Nat} {xs : List PyData} (h : Shp z n w (.tuple xs)) : ∃ m, n = m + 1 := by
  have := h.dp
  simp only [PyData.depth] at this
  exact ⟨n - 1, by omega⟩
theorem ShpL.up {n w : Nat} {xs : List PyData} (h : ShpL false n w xs) : ShpL true n w xs :=
  ⟨okdL_iff.mpr fun x hx => (Shp.up (h.mem hx)).ok, h.dp, h.wt⟩
theorem strOk_of (s : String) : PyData.strOk (Str.ofString s) = true := by
  unfold PyData.strOk
  rw [Str.ofString_eq_toList]
  simp only [Array.all_toList.symm, List.all_eq_true, List.mem_map, decide_eq_true_eq]
  rintro x ⟨c, _, rfl⟩
  have := c.valid
  simp only [UInt32.isValidChar, Nat.isValidChar] at this
  show c.val.toNat < _
  omega
theorem Shp.text {z : Bool} {n k : Nat} {x : Str} (h : PyData.strOk x = true) (hk : x.length ≤ k) : Shp z n (10 * k + 2) (.str x) := by
  refine Shp.str h ?_
  have h2 : ∀ c ∈ x.cps.toList, c < 16 ^ 8 := fun c hc => by
    unfold PyData.strOk at h
    rw [← Array.all_toList, List.all_eq_true] at h
    have := h c hc
    simp only [decide_eq_true_eq] at this
    omega
  have := StrLaws.reprText_len x h2
  simp only [PyData.shown]
  omega
end TW
set_option Elab.async false
set_option linter.all false
set_option maxRecDepth 100000
set_option maxHeartbeats 4000000
namespace TW
open PySem PySem.Spec PyProof.Rows L2 DL

abbrev lI (ns : List Int) : List PyData := ns.map PyData.int
abbrev tI (ns : List Int) : PyData := .tuple (lI ns)
abbrev lN (ns : List Nat) : List PyData := ns.map fun (i : Nat) => PyData.int (i : Int)
abbrev prD (a b : List Int) : PyData := .tuple [tI a, tI b]
/-- the item at a place -/
def gi (ns : List Int) (i : Nat) : Int := ns[i]?.getD 1
theorem gi_at {ns : List Int} {i : Nat} (h : i < ns.length) : ns[i]? = some (gi ns i) := by
  unfold gi; rw [List.getElem?_eq_getElem h]; rfl
theorem gi_mem {ns : List Int} {i : Nat} (h : i < ns.length) : gi ns i ∈ ns := by
  have := gi_at h
  exact List.mem_of_getElem? this
@[simp] theorem gi_cons0 (x : Int) (xs : List Int) : gi (x :: xs) 0 = x := rfl
@[simp] theorem gi_consS (x : Int) (xs : List Int) (i : Nat) : gi (x :: xs) (i + 1) = gi xs i := by simp [gi]
@[simp] theorem gi_cons1 (x : Int) (xs : List Int) : gi (x :: xs) 1 = gi xs 0 := by simp [gi]
theorem range_gi (ns : List Int) : (List.range ns.length).map (gi ns) = ns := by
  apply List.ext_getElem?
  intro i
  by_cases h : i < ns.length
  · rw [List.getElem?_map, List.getElem?_range h, gi_at h]; rfl
  · rw [List.getElem?_eq_none (by simp; omega), List.getElem?_eq_none (by omega)]
theorem numbered_gi (ns : List Int) : numbered 0 (lI ns) = (List.range ns.length).map fun (i : Nat) => .tuple [.int (i : Int), .int (gi ns i)] := by
  rw [numbered_zip]
  apply List.ext_getElem?
  intro i
  by_cases h : i < ns.length
  · have e : ns[i]? = some ns[i] := List.getElem?_eq_getElem h
    rw [List.getElem?_map, List.getElem?_map, List.getElem?_range h, List.getElem?_zipIdx, e]
    have := gi_at h
    rw [e] at this
    simp [Option.some.inj this]
  · rw [List.getElem?_eq_none (by simp; omega), List.getElem?_eq_none (by simp; omega)]
theorem gi_ext {as bs : List Int} (hl : as.length = bs.length) (h : ∀ i, i < as.length → gi as i = gi bs i) : as = bs := by
  rw [← range_gi as, ← range_gi bs, ← hl]
  exact List.map_congr_left fun i hi => h i (List.mem_range.mp hi)
theorem gi_range {n i : Nat} {f : Nat → Int} (h : i < n) : gi ((List.range n).map f) i = f i := by
  have := gi_at (ns := (List.range n).map f) (i := i) (by simpa using h)
  rw [List.getElem?_map, List.getElem?_range h] at this
  exact (Option.some.inj this).symm
theorem fm_map {α β : Type} (p : α → Bool) (f : α → β) (as : List α) : as.filterMap (fun a => if p a = true then some (f a) else none) = (as.filter p).map f := by
  induction as with
  | nil => rfl
  | cons a as ih => by_cases h : p a = true <;> simp [h, ih]
theorem okd_ints : ∀ ns : List Int, PyData.canLayAll0 (lI ns) = true := canLay_ints
theorem shaped_nats (ns : List Nat) : SeqAt.shaped (.list (lN ns)) = true := by
  have := shaped_ints (ns.map fun (i : Nat) => (i : Int))
  rw [List.map_map] at this; exact this
theorem eqv_nats (ns : List Nat) : PyData.eqvAll (lN ns) [] = ns.isEmpty := by
  cases ns <;> simp [PyData.eqvAll]
theorem shaped_nil : SeqAt.shaped (.list []) = true := by decide
theorem nums_succ (lo : Int) (n : Nat) : nums lo (n + 1) = .int lo :: nums (lo + 1) n := by
  rw [nums_map, nums_map, List.range_succ_eq_map, List.map_cons, List.map_map]
  congr 1
  · simp
  · apply List.map_congr_left; intro i _; simp; omega
theorem for_cntZ {g : DTG} {b : DTS} {δ : DS} {E : DEnds} {u : Stop E} (lo : Int) (n : Nat) (P : Nat → DS → Prop) (Q : DS → Prop) (Z : PyData → DS → Prop) (h : P 0 δ) (h0 : ∀ δ, P n δ → E.nx δ) (hq : ∀ δ, Q δ → E.nx δ) (hz : ∀ x δ, Z x δ → E.rt x δ)
    (hs : ∀ i δ, i < n → P i δ → ∀ (K B : DS → Prop) (T : PyData → DS → Prop), (∀ δ', P (i + 1) δ' → K δ') → (∀ δ', Q δ' → B δ') → (∀ x δ', Z x δ' → T x δ') → g (.int (lo + (i : Int))) δ fun δ1 => b { nx := K, rt := T, bk := B, ct := K } δ1) : forC g b (nums lo n) δ E u := by
  refine for_inv (fun xs δ => ∃ i, i ≤ n ∧ xs = nums (lo + (i : Int)) (n - i) ∧ P i δ) Q Z ⟨0, by omega, by simp, h⟩ ?_ hq hz ?_
  · rintro δ ⟨i, hi, hx, hp⟩
    have : i = n := by
      have := congrArg List.length hx
      simp [nums] at this; omega
    subst this
    exact h0 δ hp
  · rintro x xs δ ⟨i, hi, hx, hp⟩ K B T hK hB hT
    have hlt : i < n := by
      have := congrArg List.length hx
      simp [nums] at this; omega
    rw [show n - i = (n - i - 1) + 1 by omega, nums_succ, List.cons.injEq] at hx
    obtain ⟨rfl, rfl⟩ := hx
    refine hs i δ hlt hp K B T (fun δ' hp' => hK δ' ⟨i + 1, by omega, ?_, hp'⟩) hB hT
    congr 1
    omega
theorem for_cnt {g : DTG} {b : DTS} {δ : DS} {E : DEnds} {u : Stop E} (lo : Int) (n : Nat) (P : Nat → DS → Prop) (h : P 0 δ) (h0 : ∀ δ, P n δ → E.nx δ)
    (hs : ∀ i δ, i < n → P i δ → ∀ (K B : DS → Prop) (T : PyData → DS → Prop), (∀ δ', P (i + 1) δ' → K δ') → g (.int (lo + (i : Int))) δ fun δ1 => b { nx := K, rt := T, bk := B, ct := K } δ1) : forC g b (nums lo n) δ E u :=
  for_cntZ lo n P (fun _ => False) (fun _ _ => False) h h0 (fun _ h => h.elim) (fun _ _ h => h.elim) fun i δ hi hp K B T hK _ _ => hs i δ hi hp K B T hK
/-- the item at a place -/
def gd (ds : List PyData) (i : Nat) : PyData := ds[i]?.getD .none
end TW
set_option Elab.async false
set_option linter.all false
set_option maxRecDepth 100000
set_option maxHeartbeats 4000000
namespace TW
open PySem PySem.Spec PyProof.Rows L2 DL
def sp_common : DSp := fun cs R => ∃ a b, cs = [.d (.int a), .d (.int b)] ∧ 0 ≤ a ∧ 0 ≤ b ∧ R (.int (gcdI a b)) cs
def sp_inverse : DSp := fun cs R => ∃ a b, cs = [.d (.int a), .d (.int b)] ∧ Pos b ∧ R (.int (invF a b)) cs
def optI : Option Int → PyData
  | some x => .int x
  | none => .none
@[simp] theorem optI_some (x : Int) : optI (some x) = .int x := rfl
@[simp] theorem optI_none : optI none = .none := rfl
def sp_least_times : DSp := fun cs R => ∃ a b s, cs = [.d (.int a), .d (.int b), .d (.int s)] ∧ Pos a ∧ Pos b ∧ -BIG ≤ s ∧ s ≤ BIG ∧ R (optI (timesF a b s)) cs
/-- the axes that are not divided -/
def restsF (br bx : List Int) : List Nat := (List.range bx.length).filter fun i => !decide (gi bx i % gi br i = 0)
def sp_rests : DSp := fun cs R => ∃ br bx : List Int, cs = [.d (tI br), .d (tI bx)] ∧ bx.length ≤ br.length ∧ (∀ x ∈ br, 1 ≤ x) ∧ R (.list (lN (restsF br bx))) cs
/-- a pair and a box of one kind -/
structure PB (a b bx : List Int) : Prop where
  la : a.length = bx.length
  lb : b.length = bx.length
  l0 : 0 < bx.length
  l1 : bx.length ≤ 10
  pa : ∀ x ∈ a, Pos x
  pb : ∀ x ∈ b, Pos x
  px : ∀ x ∈ bx, Pos x
def barF (a b s : Int) (ax : Nat) : PyData := match timesF a b s with
  | none => .tuple [.str "step", .int (ax : Int)]
  | some t => if a * t - s > 0 then .tuple [.str "gap", .int (ax : Int), .int t, .int ((a * t - s) / b)] else .none
def barD (a b bx : List Int) (ax : Nat) : PyData := barF (gi a ax) (gi b ax) (gi bx ax) ax
def sp_bar_along : DSp := fun cs R => ∃ a b bx ax, cs = [.d (prD a b), .d (tI bx), .d (.int (ax : Nat))] ∧ PB a b bx ∧ ax < bx.length ∧ R (barD a b bx ax) cs
def crossF (a b bx : List Int) : List (Nat × Nat) := (restsF a bx).flatMap fun i => ((restsF b bx).filter fun j => !decide (i = j)).map fun j => (i, j)
def crD (p : Nat × Nat) : PyData := .tuple [.str "sides", .int (p.1 : Int), .int (p.2 : Int)]
/-- is a box filled -/
def fillB (a b bx : List Int) : Bool :=
  (restsF a bx).isEmpty || (restsF b bx).isEmpty || (decide (restsF a bx = restsF b bx) && decide ((restsF a bx).length = 1) && isSum (gi a ((restsF a bx).headD 0)) (gi b ((restsF a bx).headD 0)) (gi bx ((restsF a bx).headD 0)))
def w_common_1 : DTS := (wPar2 0 1 (msCons (mE (wVar 1)) (msCons (mE (wOp pMod (wVar 0) (wVar 1))) msNil)))
def w_common : DTS := (wSeq (wWhile (wB (wOp pGt (wVar 1) (wC (.int 0)))) w_common_1) (wRet (wVar 0)))
def w_inverse_s1 : DTS := (wPar2 4 5 (msCons (mE (wOp pSubB (wVar 5) (wOp pMulT (wVar 6) (wVar 4)))) (msCons (mE (wVar 4)) msNil)))
@[simp ↓] theorem w_inverse_s1_ap (E : DEnds) (δ : DS) : w_inverse_s1 E δ = (wPar2 4 5 (msCons (mE (wOp pSubB (wVar 5) (wOp pMulT (wVar 6) (wVar 4)))) (msCons (mE (wVar 4)) msNil))) E δ := rfl
def w_inverse_s2 : DTS := (wSeq (wPar2 2 3 (msCons (mE (wOp pSubB (wVar 3) (wOp pMulT (wVar 6) (wVar 2)))) (msCons (mE (wVar 2)) msNil))) w_inverse_s1)
@[simp ↓] theorem w_inverse_s2_ap (E : DEnds) (δ : DS) : w_inverse_s2 E δ = (wSeq (wPar2 2 3 (msCons (mE (wOp pSubB (wVar 3) (wOp pMulT (wVar 6) (wVar 2)))) (msCons (mE (wVar 2)) msNil))) w_inverse_s1) E δ := rfl
def w_inverse_1 : DTS := (wSeq (wSet 6 (mE (wOp pDiv (wVar 3) (wVar 2)))) w_inverse_s2)
def w_inverse_s3 : DTS := (wSeq (wWhile (wB (wOp pGt (wVar 2) (wC (.int 0)))) w_inverse_1) (wRet (wOp pMod (wVar 5) (wVar 1))))
@[simp ↓] theorem w_inverse_s3_ap (E : DEnds) (δ : DS) : w_inverse_s3 E δ = (wSeq (wWhile (wB (wOp pGt (wVar 2) (wC (.int 0)))) w_inverse_1) (wRet (wOp pMod (wVar 5) (wVar 1)))) E δ := rfl
def w_inverse : DTS := (wSeq (wAsgG (wTup (wCons (wOp pMod (wVar 0) (wVar 1)) (wCons (wVar 1) (wCons (wC (.int 1)) (wCons (wC (.int 0)) wNil))))) (gT (gsCons (gN 2) (gsCons (gN 3) (gsCons (gN 4) (gsCons (gN 5) gsNil)))))) w_inverse_s3)
def w_least_times_t1 : DTS := (wRet (wOp pMod (wOp pMulT (wOp pDiv (wVar 2) (wVar 3)) (wCall [] sp_inverse (wCons (wOp pDiv (wVar 0) (wVar 3)) (wCons (wOp pDiv (wVar 1) (wVar 3)) wNil)))) (wOp pDiv (wVar 1) (wVar 3))))
def w_least_times_s1 : DTS := (wSeq (wIf (wB (wOp pNe (wOp pMod (wVar 2) (wVar 3)) (wC (.int 0)))) (wRet (wC .none)) wNext) w_least_times_t1)
@[simp ↓] theorem w_least_times_s1_ap (E : DEnds) (δ : DS) : w_least_times_s1 E δ = (wSeq (wIf (wB (wOp pNe (wOp pMod (wVar 2) (wVar 3)) (wC (.int 0)))) (wRet (wC .none)) wNext) w_least_times_t1) E δ := rfl
def w_least_times : DTS := (wSeq (wSet 3 (mE (wCall [] sp_common (wCons (wVar 0) (wCons (wVar 1) wNil))))) w_least_times_s1)
def w_rests : DTS := (wRet (wOfL (wComp (iEnumD (wCons (wVar 1) wNil)) (gT (gsCons (gN 2) (gsCons (gN 3) gsNil))) (wB (wOp pNe (wOp pMod (wVar 3) (wOp pIx (wVar 0) (wVar 2))) (wC (.int 0)))) (wVar 2) [2, 3])))
def w_bar_along_s1 : DTS := (wRet (wIfE (wB (wOp pGt (wVar 7) (wC (.int 0)))) (wTup (wCons (wC (.str "gap")) (wCons (wVar 2) (wCons (wVar 6) (wCons (wOp pDiv (wVar 7) (wVar 4)) wNil))))) (wC .none)))
@[simp ↓] theorem w_bar_along_s1_ap (E : DEnds) (δ : DS) : w_bar_along_s1 E δ = (wRet (wIfE (wB (wOp pGt (wVar 7) (wC (.int 0)))) (wTup (wCons (wC (.str "gap")) (wCons (wVar 2) (wCons (wVar 6) (wCons (wOp pDiv (wVar 7) (wVar 4)) wNil))))) (wC .none))) E δ := rfl
def w_bar_along_1 : DTS := (wRet (wTup (wCons (wC (.str "step")) (wCons (wVar 2) wNil))))
def w_bar_along_t1 : DTS := (wSeq (wSet 7 (mE (wOp pSubB (wOp pMulT (wVar 3) (wVar 6)) (wVar 5)))) w_bar_along_s1)
def w_bar_along_s2 : DTS := (wSeq (wIf (wB (wOp pIs (wVar 6) (wC .none))) w_bar_along_1 wNext) w_bar_along_t1)
@[simp ↓] theorem w_bar_along_s2_ap (E : DEnds) (δ : DS) : w_bar_along_s2 E δ = (wSeq (wIf (wB (wOp pIs (wVar 6) (wC .none))) w_bar_along_1 wNext) w_bar_along_t1) E δ := rfl
def w_bar_along_s3 : DTS := (wSeq (wSet 6 (mE (wCall [] sp_least_times (wCons (wVar 3) (wCons (wVar 4) (wCons (wVar 5) wNil)))))) w_bar_along_s2)
@[simp ↓] theorem w_bar_along_s3_ap (E : DEnds) (δ : DS) : w_bar_along_s3 E δ = (wSeq (wSet 6 (mE (wCall [] sp_least_times (wCons (wVar 3) (wCons (wVar 4) (wCons (wVar 5) wNil)))))) w_bar_along_s2) E δ := rfl
def w_bar_along : DTS := (wSeq (wPar3 3 4 5 (msCons (mE (wOp pIx (wOp pIx (wVar 0) (wC (.int 0))) (wVar 2))) (msCons (mE (wOp pIx (wOp pIx (wVar 0) (wC (.int 1))) (wVar 2))) (msCons (mE (wOp pIx (wVar 1) (wVar 2))) msNil)))) w_bar_along_s3)
theorem ln_common : ∀ cs R, sp_common cs R → cs.length = 2 := by
  intro cs R h
  unfold sp_common at h
  repeat (obtain ⟨_, h⟩ := h)
  subst_vars; rfl
theorem ln_inverse : ∀ cs R, sp_inverse cs R → cs.length = 2 := by
  intro cs R h
  unfold sp_inverse at h
  repeat (obtain ⟨_, h⟩ := h)
  subst_vars; rfl
theorem ln_least_times : ∀ cs R, sp_least_times cs R → cs.length = 3 := by
  intro cs R h
  unfold sp_least_times at h
  repeat (obtain ⟨_, h⟩ := h)
  subst_vars; rfl
theorem ln_rests : ∀ cs R, sp_rests cs R → cs.length = 2 := by
  intro cs R h
  unfold sp_rests at h
  repeat (obtain ⟨_, h⟩ := h)
  subst_vars; rfl
theorem ln_bar_along : ∀ cs R, sp_bar_along cs R → cs.length = 3 := by
  intro cs R h
  unfold sp_bar_along at h
  repeat (obtain ⟨_, h⟩ := h)
  subst_vars; rfl
end TW
set_option Elab.async false
set_option linter.all false
set_option maxRecDepth 100000
set_option maxHeartbeats 4000000
namespace TW
open PySem PySem.Spec PyProof.Rows L2 DL
theorem rd_common : ∀ cs R, sp_common cs R → w_common (endsOf cs R) (start0 2 cs) := by
  rintro _ R ⟨a, b, rfl, ha, hb, hR⟩
  simp -implicitDefEqProofs -dsimp [w_common]
  refine while_plain (fun m δ => ∃ x y : Int, δ = [.d (.int x), .d (.int y)] ∧ 0 ≤ y ∧ 0 ≤ x ∧ y.toNat = m ∧ gcdI x y = gcdI a b) (fun δ => ∃ c1, δ = [.d (.int (gcdI a b)), .d c1]) b.toNat ⟨a, b, rfl, hb, ha, rfl, rfl⟩ ?_ ?_
  · rintro δ ⟨c1, rfl⟩
    (try simp -implicitDefEqProofs -dsimp)
    exact hR
  · rintro m δ ⟨x, y, rfl, h0, h1, rfl, hg⟩ K N T hK hN
    (try simp -implicitDefEqProofs -dsimp)
    split
    · rename_i hy
      simp -implicitDefEqProofs -dsimp [w_common_1]
      refine ⟨hy, hK (x % y).toNat _ ?_ ⟨y, x % y, rfl, Int.emod_nonneg _ (by omega), by omega, rfl, ?_⟩⟩
      · have := Int.emod_lt_of_pos x hy
        have := Int.emod_nonneg x (show y ≠ 0 by omega)
        omega
      · rw [gcd_step, hg]
    · rename_i hy
      have : y = 0 := by omega
      subst this
      have e : gcdI x 0 = x := by unfold gcdI; simp; omega
      refine hN _ ⟨.int 0, ?_⟩
      rw [← hg, e]
theorem abs_mul_le {q n : Int} (hq : 0 ≤ q) : (q * n).natAbs = q.toNat * n.natAbs := by
  rw [Int.natAbs_mul]; congr 1; omega
theorem rd_inverse : ∀ cs R, sp_inverse cs R → w_inverse (endsOf cs R) (start0 7 cs) := by
  rintro _ R ⟨a, b, rfl, ⟨hb0, hb1⟩, hR⟩
  have l0 : 0 ≤ a % b := Int.emod_nonneg _ (by omega)
  have l1 : a % b < b := Int.emod_lt_of_pos _ (by omega)
  simp -implicitDefEqProofs -dsimp [w_inverse]
  refine ⟨by omega, ?_⟩
  refine while_plain (fun m δ => ∃ (l r n t : Int) (c6 : Cell) (f : Nat), δ = [.d (.int a), .d (.int b), .d (.int l), .d (.int r), .d (.int n), .d (.int t), c6] ∧ 0 ≤ l ∧ 0 < r ∧ l < r ∧ r ≤ b ∧ n.natAbs * r.toNat + t.natAbs * l.toNat ≤ b.toNat ∧ l.toNat = m ∧ m < f ∧ invGo f l r n t = invGo (a % b).toNat.succ (a % b) b 1 0) (fun δ => ∃ c2 c3 c4 c6, δ = [.d (.int a), .d (.int b), c2, c3, c4, .d (.int (invGo (a % b).toNat.succ (a % b) b 1 0)), c6]) (a % b).toNat ⟨_, _, _, _, _, _, rfl, l0, by omega, by omega, by omega, by simp, rfl, by omega, rfl⟩ ?_ ?_
  · rintro δ ⟨c2, c3, c4, c6, rfl⟩
    (try simp -implicitDefEqProofs -dsimp)
    exact ⟨by omega, hR⟩
  · rintro m δ ⟨l, r, n, t, c6, f, rfl, h0, h1, h2, h3, h4, rfl, hf, hg⟩ K N T hK hN
    (try simp -implicitDefEqProofs -dsimp)
    obtain ⟨f, rfl⟩ : ∃ f', f = f' + 1 := ⟨f - 1, by omega⟩
    split
    · rename_i hl
      have q0 : 0 ≤ r / l := Int.ediv_nonneg (by omega) h0
      have q1 : r / l ≤ r := Int.ediv_le_self _ (by omega)
      have m0 := Int.emod_nonneg r (show l ≠ 0 by omega)
      have m1 := Int.emod_lt_of_pos r hl
      have e := sub_div r l
      have nb : n.natAbs ≤ b.toNat := by
        have : n.natAbs * 1 ≤ n.natAbs * r.toNat := Nat.mul_le_mul_left _ (by omega)
        omega
      have B := BIG_ge
      simp -implicitDefEqProofs -dsimp [w_inverse_1]
      refine ⟨div_big hl (by omega), mul_big (by omega) (by omega) (by omega) (by omega), mul_big (by omega) (by omega) (by omega) (by omega), hK (r % l).toNat _ (by omega) ⟨r - r / l * l, l, t - r / l * n, n, _, f, rfl, by omega, by omega, by omega, by omega, ?_, by rw [e], by omega, ?_⟩⟩
      · rw [e]
        have d1 : (t - r / l * n).natAbs ≤ t.natAbs + (r / l).toNat * n.natAbs := by
          have := abs_mul_le (n := n) q0
          omega
        have d2 := Nat.mul_le_mul_right l.toNat d1
        have d3 : r.toNat = l.toNat * (r / l).toNat + (r % l).toNat := by
          have := Int.mul_ediv_add_emod r l
          have h5 : ((l.toNat * (r / l).toNat : Nat) : Int) = l * (r / l) := by
            rw [Int.natCast_mul, Int.toNat_of_nonneg h0, Int.toNat_of_nonneg q0]
          omega
        have d4 : (t.natAbs + (r / l).toNat * n.natAbs) * l.toNat = t.natAbs * l.toNat + n.natAbs * (l.toNat * (r / l).toNat) := by
          rw [Nat.add_mul]
          congr 1
          rw [Nat.mul_comm (r / l).toNat, Nat.mul_assoc, Nat.mul_comm (r / l).toNat]
        have d5 : n.natAbs * r.toNat = n.natAbs * (l.toNat * (r / l).toNat) + n.natAbs * (r % l).toNat := by
          rw [d3, Nat.mul_add]
        omega
      · rw [← hg]
        show _ = if l > 0 then _ else _
        rw [if_pos hl]
    · rename_i hl
      have e : invGo (f + 1) l r n t = t := by
        show (if l > 0 then _ else _) = _
        rw [if_neg hl]
      rw [e] at hg
      exact hN _ ⟨_, _, _, _, by rw [hg]⟩
theorem gcd_div_pos {a b : Int} (ha : Pos a) (x : Int) (hd : gcdI a b ∣ x) (hx : Pos x) : Pos (x / gcdI a b) := by
  obtain ⟨g0, g1⟩ := gcd_le (b := b) ha.1
  obtain ⟨x0, x1⟩ := hx
  have e := Int.ediv_mul_cancel hd
  have l := Int.ediv_le_self (gcdI a b) (show 0 ≤ x by omega)
  have n := Int.ediv_nonneg (show 0 ≤ x by omega) (show 0 ≤ gcdI a b by omega)
  refine ⟨?_, by omega⟩
  have : x / gcdI a b ≠ 0 := fun z => by rw [z] at e; omega
  omega
theorem ediv_abs {x g : Int} (hg : 1 ≤ g) (h0 : -BIG ≤ x) (h1 : x ≤ BIG) : -BIG ≤ x / g ∧ x / g ≤ BIG := by
  have B := BIG_ge
  by_cases c : 0 ≤ x
  · have l := Int.ediv_le_self g c
    have n := Int.ediv_nonneg c (show 0 ≤ g by omega)
    omega
  · have n : x / g < 0 := Int.ediv_neg_of_neg_of_pos (by omega) (by omega)
    have : x ≤ x / g := by
      rw [Int.le_ediv_iff_mul_le (by omega)]
      have := Int.mul_le_mul_of_nonpos_left (show x ≤ 0 by omega) (show (1 : Int) ≤ g by omega)
      omega
    omega
theorem rd_least_times : ∀ cs R, sp_least_times cs R → w_least_times (endsOf cs R) (start0 4 cs) := by
  rintro _ R ⟨a, b, s, rfl, ha, hb, hs0, hs1, hR⟩
  obtain ⟨g0, g1⟩ := gcd_le (b := b) ha.1
  have qa := gcd_div_pos (b := b) ha a (gcd_dvd_l a b) ha
  have qb := gcd_div_pos (b := b) ha b (gcd_dvd_r a b) hb
  obtain ⟨i0, i1, _⟩ := inv_ok qb.1 (gcd_parts (b := b) ha.1)
  obtain ⟨a0, a1⟩ := ha
  obtain ⟨b0, b1⟩ := hb
  simp -implicitDefEqProofs -dsimp [w_least_times]
  refine ask_of ⟨a, b, rfl, by omega, by omega, ?_⟩
  (try simp -implicitDefEqProofs -dsimp)
  refine ⟨by omega, ?_⟩
  have lg := (div_big (j := gcdI a b) (by omega) (by omega)).2
  unfold timesF at hR
  split
  · rename_i h
    rw [if_neg (by simpa using h)] at hR
    simp -implicitDefEqProofs -dsimp [w_least_times_t1, lg]
    refine ⟨by omega, ask_of ⟨_, _, rfl, qb, ?_⟩⟩
    simp -implicitDefEqProofs -dsimp [lg]
    have := ediv_abs g0 hs0 hs1
    have B := BIG_ge
    have := qb.2
    exact ⟨mul_big (by omega) (by omega) (by omega) (by omega), by omega, by have := qb.1; omega, hR⟩
  · rename_i h
    rw [if_pos (by simpa using h)] at hR
    exact hR
theorem rd_rests : ∀ cs R, sp_rests cs R → w_rests (endsOf cs R) (start0 4 cs) := by
  rintro _ R ⟨br, bx, rfl, hl, hb, hR⟩
  simp -implicitDefEqProofs -dsimp [w_rests]
  refine com_map (List.range bx.length) _ (numbered_gi _) (fun i => if (!decide (gi bx i % gi br i = 0)) = true then some (.int (i : Nat)) else none) (fun i hi acc K hK => ?_) ?_
  · have hi := List.mem_range.mp hi
    have p := hb _ (gi_mem (ns := br) (i := i) (by omega))
    simp -implicitDefEqProofs -dsimp [gi_at (ns := br) (i := i) (by omega)]
    refine ⟨by omega, ?_⟩
    split
    · rename_i z
      simpa [z] using hK
    · rename_i z
      simpa [z] using hK
  · rw [fm_map]
    (try simp -implicitDefEqProofs -dsimp)
    exact hR
theorem PB.at {a b bx : List Int} (h : PB a b bx) {i : Nat} (hi : i < bx.length) : a[i]? = some (gi a i) ∧ b[i]? = some (gi b i) ∧ bx[i]? = some (gi bx i) ∧ Pos (gi a i) ∧ Pos (gi b i) ∧ Pos (gi bx i) :=
  have ha : i < a.length := by have := h.la; omega
  have hb : i < b.length := by have := h.lb; omega
  ⟨gi_at ha, gi_at hb, gi_at hi, h.pa _ (gi_mem ha), h.pb _ (gi_mem hb), h.px _ (gi_mem hi)⟩
theorem times_big {a b s t : Int} (ha : Pos a) (hb : Pos b) (h : timesF a b s = some t) : 0 ≤ t ∧ t ≤ BIG := by
  obtain ⟨_, t0, t1, _⟩ := times_some ha.1 hb.1 h
  obtain ⟨g0, _⟩ := gcd_le (b := b) ha.1
  have := Int.ediv_le_self (gcdI a b) (show 0 ≤ b by have := hb.1; omega)
  have := hb.2
  omega
theorem rd_bar_along : ∀ cs R, sp_bar_along cs R → w_bar_along (endsOf cs R) (start0 8 cs) := by
  rintro _ R ⟨a, b, bx, ax, rfl, h, hx, hR⟩
  obtain ⟨ea, eb, ex, qa, qb, qx⟩ := h.at hx
  unfold barD barF at hR
  simp -implicitDefEqProofs -dsimp [w_bar_along, ea, eb, ex]
  have B := BIG_ge
  have x0 := qx.1
  refine ask_of ⟨_, _, _, rfl, qa, qb, by omega, qx.2, ?_⟩
  cases ht : timesF (gi a ax) (gi b ax) (gi bx ax) with
  | none =>
    rw [ht] at hR
    simp -implicitDefEqProofs -dsimp [w_bar_along_1]
    exact hR
  | some t =>
    rw [ht] at hR
    have hR : R (if gi a ax * t - gi bx ax > 0 then .tuple [.str "gap", .int (ax : Int), .int t, .int ((gi a ax * t - gi bx ax) / gi b ax)] else .none) _ := hR
    obtain ⟨t0, t1⟩ := times_big qa qb ht
    simp -implicitDefEqProofs -dsimp [w_bar_along_t1]
    have a0 := qa.1
    have a1 := qa.2
    refine ⟨mul_big (by omega) (by omega) (by omega) (by omega), ?_⟩
    split
    · rename_i z
      rw [if_pos (show gi a ax * t - gi bx ax > 0 by omega)] at hR
      exact ⟨qb.div, hR⟩
    · rename_i z
      rw [if_neg (show ¬ gi a ax * t - gi bx ax > 0 by omega)] at hR
      exact hR
theorem mem_rests {a bx : List Int} {i : Nat} : i ∈ restsF a bx ↔ i < bx.length ∧ gi bx i % gi a i ≠ 0 := by
  unfold restsF
  rw [List.mem_filter, List.mem_range]; simp
theorem rests_len (a bx : List Int) : (restsF a bx).length ≤ bx.length := by
  unfold restsF
  exact Nat.le_trans (List.length_filter_le _ _) (by simp)
theorem rests_nodup (a bx : List Int) : (restsF a bx).Nodup := List.Pairwise.filter _ List.nodup_range
theorem bar_shape (a b bx : List Int) (ax : Nat) : barD a b bx ax = .none ∨ (∃ rest, barD a b bx ax = .tuple (.str "step" :: rest)) ∨ ∃ rest, barD a b bx ax = .tuple (.str "gap" :: rest) := by
  unfold barD barF
  split
  · exact .inr (.inl ⟨_, rfl⟩)
  · split
    · exact .inr (.inr ⟨_, rfl⟩)
    · exact .inl rfl
end TW
set_option Elab.async false
set_option linter.all false
set_option maxRecDepth 100000
set_option maxHeartbeats 4000000
namespace TW
open PySem PySem.Spec PyProof.Rows L2 DL
abbrev sp_Ldeck : DSpM := spDeck
abbrev sp_Ldraw : DSp := spDraw
def In (m : Int) (ns : List Int) : Prop := ∀ x ∈ ns, 1 ≤ x ∧ x ≤ m
def sp_Lone : DSp := fun cs R => ∃ a b c d xs, cs = [.dk a b c, .d d] ∧ seqOf d = some xs ∧ 0 < xs.length ∧ xs.length ≤ 1000000 ∧ ∀ x ∈ xs, R x [.dk a b c, .d d]
def lcmI (a b : Int) : Int := a * b / gcdI a b
def sp_Llcm : DSp := fun cs R => ∃ a b, cs = [.d (.int a), .d (.int b)] ∧ Pos a ∧ Pos b ∧ R (.int (lcmI a b)) cs
/-- the sides of a cut box -/
def IsCutBox (p q ns : List Int) (m : Int) : Prop := ns.length = p.length ∧ ∃ ax x y, ax < p.length ∧ 0 ≤ x ∧ x < m ∧ 1 ≤ y ∧ y ≤ m ∧ ∀ i, i < p.length → gi ns i = if i = ax then gi p i * x + gi q i * y else lcmI (gi p i) (gi q i)
def IsPlainBox (p ns : List Int) (m : Int) : Prop := ns.length = p.length ∧ ∀ i, i < p.length → ∃ k, 1 ≤ k ∧ k ≤ m ∧ gi ns i = gi p i * k
/-- two bricks of one kind -/
structure Pr (p q : List Int) : Prop where
  l : q.length = p.length
  l0 : 0 < p.length
  l1 : p.length ≤ 10
  p : ∀ x ∈ p, 1 ≤ x ∧ x < 2 ^ 60
  q : ∀ x ∈ q, 1 ≤ x ∧ x < 2 ^ 60
def sp_Lrests : DSp := fun cs R => ∃ br bx : List Int, cs = [.d (tI br), .d (tI bx)] ∧ bx.length ≤ br.length ∧ bx.length ≤ 1000000 ∧ (∀ x ∈ br, 1 ≤ x) ∧ R (.list (lN (restsF br bx))) cs
def vol (ns : List Int) : Int := ns.foldl (fun a b => a * b) 1
def w_Lrests : DTS := (wRet (wOfL (wComp (iRange1 (wCons (wFn pLen (wCons (wVar 1) wNil)) wNil)) (gN 2) (wB (wOp pNe (wOp pMod (wFn pInt (wCons (wOp pIx (wVar 1) (wVar 2)) wNil)) (wOp pIx (wVar 0) (wVar 2))) (wC (.int 0)))) (wVar 2) [2])))
def w_Lone : DTS := (wRet (wOp pIx (wVar 1) (wCall [true, false] sp_Ldraw (wCons (wVar 0) (wCons (wFn pLen (wCons (wVar 1) wNil)) wNil)))))
def w_Llcm : DTS := (wRet (wOp pDiv (wOp pMulT (wVar 0) (wVar 1)) (wCall [] sp_common (wCons (wVar 0) (wCons (wVar 1) wNil)))))
theorem ln_Lrests : ∀ cs R, sp_Lrests cs R → cs.length = 2 := by
  intro cs R h
  unfold sp_Lrests at h
  repeat (obtain ⟨_, h⟩ := h)
  subst_vars; rfl
theorem ln_Lone : ∀ cs R, sp_Lone cs R → cs.length = 2 := by
  intro cs R h
  unfold sp_Lone at h
  repeat (obtain ⟨_, h⟩ := h)
  subst_vars; rfl
theorem ln_Llcm : ∀ cs R, sp_Llcm cs R → cs.length = 2 := by
  intro cs R h
  unfold sp_Llcm at h
  repeat (obtain ⟨_, h⟩ := h)
  subst_vars; rfl
end TW
set_option Elab.async false
set_option linter.all false
set_option maxRecDepth 100000
set_option maxHeartbeats 4000000
namespace TW
open PySem PySem.Spec PyProof.Rows L2 DL
theorem rd_Lone : ∀ cs R, sp_Lone cs R → w_Lone (endsOf cs R) (start0 2 cs) := by
  rintro _ R ⟨a, b, c, d, xs, rfl, hd, h0, h1, hR⟩
  cases d with
  | list ds =>
    cases hd
    simp -implicitDefEqProofs -dsimp [w_Lone]
    refine ask_draw (by omega) (by omega) fun r q0 q1 => ?_
    (try simp -implicitDefEqProofs -dsimp)
    obtain ⟨z, hz, e⟩ := atI_ex (xs := xs) q0 q1
    exact onS_of e (by simp -implicitDefEqProofs -dsimp; exact hR z hz)
  | tuple ds =>
    cases hd
    simp -implicitDefEqProofs -dsimp [w_Lone]
    refine ask_draw (by omega) (by omega) fun r q0 q1 => ?_
    (try simp -implicitDefEqProofs -dsimp)
    obtain ⟨z, hz, e⟩ := atI_ex (xs := xs) q0 q1
    exact onS_of e (by simp -implicitDefEqProofs -dsimp; exact hR z hz)
  | _ => cases hd
theorem cutD_drop {α : Type} (xs : List α) (n : Nat) : cutD xs (some (n : Int)) none = xs.drop n := by
  unfold DL.cutD
  rw [HT.sIx_none, HT.sIx_nat]
  by_cases h : n ≤ xs.length
  · rw [Nat.min_eq_left h, List.take_of_length_le (by simp)]
  · rw [Nat.min_eq_right (by omega), List.drop_of_length_le (show xs.length ≤ xs.length by omega), List.drop_of_length_le (by omega)]; simp
theorem cutD_drop1 {α : Type} (xs : List α) (n : Nat) : cutD xs (some ((n : Int) + 1)) none = xs.drop (n + 1) := cutD_drop xs (n + 1)
theorem put_at {α : Type} {xs : List α} {n : Nat} {y : α} (h : n < xs.length) : xs.take n ++ (y :: xs.drop (n + 1)) = xs.set n y := by
  rw [List.set_eq_take_append_cons_drop, if_pos h]
/-- x[:i] + (d,) + x[i + 1:] -/
theorem cut_put {xs : List PyData} {n : Nat} {y : PyData} (h : n < xs.length) : cutD xs none (some (n : Int)) ++ [y] ++ cutD xs (some ((n : Int) + 1)) none = xs.set n y := by
  rw [cutD_take, cutD_drop1, List.append_assoc, List.singleton_append, put_at h]
theorem In.set {m y : Int} {ns : List Int} {n : Nat} (h : In m ns) (h0 : 1 ≤ y) (h1 : y ≤ m) : In m (ns.set n y) := fun x hx => by
  rcases List.mem_or_eq_of_mem_set hx with q | q
  · exact h x q
  · subst q; exact ⟨h0, h1⟩
theorem lcm_pos {a b : Int} (ha : 1 ≤ a) (hb : 1 ≤ b) : 1 ≤ lcmI a b ∧ lcmI a b ≤ a * b ∧ a ∣ lcmI a b ∧ b ∣ lcmI a b := by
  obtain ⟨g0, g1⟩ := gcd_le (b := b) ha
  obtain ⟨a', ea⟩ := gcd_dvd_l a b
  obtain ⟨b', eb⟩ := gcd_dvd_r a b
  unfold lcmI
  have e1 : a * b / gcdI a b = a * b' := by
    conv => lhs; rw [show a * b = gcdI a b * (a * b') by rw [Int.mul_left_comm, ← eb]]
    exact Int.mul_ediv_cancel_left _ (by omega)
  have e2 : a * b / gcdI a b = b * a' := by
    conv => lhs; rw [show a * b = gcdI a b * (b * a') by rw [Int.mul_left_comm, ← ea, Int.mul_comm]]
    exact Int.mul_ediv_cancel_left _ (by omega)
  have p : 0 < b' := Int.pos_of_mul_pos_right (a := gcdI a b) (b := b') (by rw [← eb]; omega) (by omega)
  have q := Int.mul_le_mul_of_nonneg_left (show (1 : Int) ≤ b' by omega) (show 0 ≤ a by omega)
  have r : b' ≤ b := by
    have := Int.mul_le_mul_of_nonneg_right g0 (show 0 ≤ b' by omega)
    omega
  have s := Int.mul_le_mul_of_nonneg_left r (show 0 ≤ a by omega)
  refine ⟨by rw [e1]; omega, by rw [e1]; omega, ⟨b', e1⟩, ⟨a', e2⟩⟩
theorem rd_Llcm : ∀ cs R, sp_Llcm cs R → w_Llcm (endsOf cs R) (start0 2 cs) := by
  rintro _ R ⟨a, b, rfl, ⟨a0, a1⟩, ⟨b0, b1⟩, hR⟩
  obtain ⟨g0, g1⟩ := gcd_le (b := b) a0
  have B := BIG_ge
  simp -implicitDefEqProofs -dsimp [w_Llcm]
  refine ⟨mul_big (by omega) (by omega) (by omega) (by omega), ask_of ⟨a, b, rfl, by omega, by omega, ?_⟩⟩
  (try simp -implicitDefEqProofs -dsimp)
  exact ⟨div_big (by omega) (by omega), hR⟩
theorem Pr.at {p q : List Int} (h : Pr p q) {i : Nat} (hi : i < p.length) : p[i]? = some (gi p i) ∧ q[i]? = some (gi q i) ∧ (1 ≤ gi p i ∧ gi p i < 2 ^ 60) ∧ (1 ≤ gi q i ∧ gi q i < 2 ^ 60) :=
  have hj : i < q.length := by have := h.l; omega
  ⟨gi_at hi, gi_at hj, h.p _ (gi_mem hi), h.q _ (gi_mem hj)⟩
theorem gi_set {ns : List Int} {i k : Nat} {y : Int} (hi : i < ns.length) : gi (ns.set k y) i = if i = k then y else gi ns i := by
  unfold gi
  rw [List.getElem?_set]
  by_cases h : k = i
  · subst h; simp [hi]
  · rw [if_neg h, if_neg (fun e => h e.symm)]
theorem IsPlainBox.of {p ns : List Int} {m : Int} (hl : ns.length = p.length) (h : ∀ i, i < p.length → ∃ k, 1 ≤ k ∧ k ≤ m ∧ gi ns i = gi p i * k) : IsPlainBox p ns m := ⟨hl, h⟩
/-- each item by one of many, place by place -/
theorem com_gi {g : DTG} {t : DT} {e : DE} {vs : List Nat} {δ : DS} {xs : List Int} {R : List PyData → DS → Prop} {u : Stop R} (P : Int → Int → Prop)
    (hs : ∀ x ∈ xs, ∀ (acc : List PyData) (K : List PyData → DS → Prop), (∀ y, P x y → K (acc ++ [.int y]) δ) → g (.int x) δ fun δ1 => t δ1 fun b δ2 => if b = true then e δ2 fun o δ3 => lk o δ3 fun y δ4 => K (acc ++ [y]) (wipeD δ4 vs) else K acc (wipeD δ2 vs)) (k : ∀ ns : List Int, ns.length = xs.length → (∀ i, i < xs.length → P (gi xs i) (gi ns i)) → R (lI ns) δ) : comC g t e vs (lI xs) [] δ R u := by
  refine com_inv (fun ys acc δ' => δ' = δ ∧ ∃ (pre post ns : List Int), xs = pre ++ post ∧ ys = lI post ∧ acc = lI ns ∧ ns.length = pre.length ∧ ∀ i, i < pre.length → P (gi pre i) (gi ns i)) ⟨rfl, [], xs, [], rfl, rfl, rfl, rfl, by simp⟩ ?_ ?_
  · rintro acc δ' ⟨rfl, pre, post, ns, he, hy, rfl, hl, hp⟩
    have : post = [] := by
      cases post with
      | nil => rfl
      | cons => cases hy
    subst this
    have : pre = xs := by rw [he]; simp
    subst this
    exact k ns hl hp
  · rintro x ys acc δ' ⟨rfl, pre, post, ns, he, hy, rfl, hl, hp⟩ K hK
    cases post with
    | nil => cases hy
    | cons z post =>
      simp only [lI, List.map_cons, List.cons.injEq] at hy
      obtain ⟨rfl, rfl⟩ := hy
      refine hs z (by rw [he]; simp) _ K fun y py => hK _ _ ⟨rfl, pre ++ [z], post, ns ++ [y], by rw [he]; simp, rfl, by simp, by simp [hl], fun i hi => ?_⟩
      by_cases c : i < pre.length
      · have e1 : gi (pre ++ [z]) i = gi pre i := by unfold gi; rw [List.getElem?_append_left c]
        have e2 : gi (ns ++ [y]) i = gi ns i := by unfold gi; rw [List.getElem?_append_left (by omega)]
        rw [e1, e2]; exact hp i c
      · have : i = pre.length := by simp at hi; omega
        subst this
        have e1 : gi (pre ++ [z]) pre.length = z := by unfold gi; simp
        have e2 : gi (ns ++ [y]) pre.length = y := by unfold gi; rw [← hl]; simp
        rw [e1, e2]; exact py
theorem rd_Lrests : ∀ cs R, sp_Lrests cs R → w_Lrests (endsOf cs R) (start0 3 cs) := by
  rintro _ R ⟨br, bx, rfl, hl, hl2, hb, hR⟩
  simp -implicitDefEqProofs -dsimp [w_Lrests]
  refine ⟨by omega, ?_⟩
  rw [nums_0]
  refine com_map (List.range bx.length) _ rfl (fun i => if (!decide (gi bx i % gi br i = 0)) = true then some (.int (i : Nat)) else none) (fun i hi acc K hK => ?_) ?_
  · have hi := List.mem_range.mp hi
    have p := hb _ (gi_mem (ns := br) (i := i) (by omega))
    simp -implicitDefEqProofs -dsimp [gi_at (ns := br) (i := i) (by omega), gi_at hi]
    refine ⟨by omega, ?_⟩
    split
    · rename_i z
      simpa [z] using hK
    · rename_i z
      simpa [z] using hK
  · rw [fm_map]
    (try simp -implicitDefEqProofs -dsimp)
    exact hR
theorem foldl_app {ns : List Int} {x y : Int} : (ns ++ [x]).foldl (fun a b => a * b) y = ns.foldl (fun a b => a * b) y * x := by simp
theorem vol_cons (x : Int) (xs : List Int) : vol (x :: xs) = x * vol xs := by
  unfold vol
  have : ∀ (l : List Int) (y z : Int), l.foldl (fun a b => a * b) (y * z) = y * l.foldl (fun a b => a * b) z := by
    intro l
    induction l with
    | nil => intros; rfl
    | cons w l ih => intro y z; simp only [List.foldl_cons]; rw [Int.mul_assoc, ih]
  rw [List.foldl_cons, Int.one_mul, ← this xs x 1, Int.mul_one]
theorem vol_pos : ∀ {ns : List Int}, (∀ x ∈ ns, 1 ≤ x) → 1 ≤ vol ns
  | [], _ => by simp [vol]
  | x :: xs, h => by
    have a := h x (List.mem_cons_self ..)
    have b := vol_pos fun y hy => h y (List.mem_cons_of_mem _ hy)
    rw [vol_cons]
    have := Int.mul_le_mul a b (by omega) (by omega)
    omega
end TW
set_option Elab.async false
set_option linter.all false
set_option maxRecDepth 100000
set_option maxHeartbeats 4000000
namespace TW
open PySem PySem.Spec PyProof.Rows L2 DL
theorem rests_nil {a bx : List Int} : restsF a bx = [] ↔ ∀ i, i < bx.length → gi a i ∣ gi bx i := by
  rw [List.eq_nil_iff_forall_not_mem]
  constructor
  · intro h i hi
    have := h i
    rw [mem_rests] at this
    by_cases c : gi bx i % gi a i = 0
    · exact Int.dvd_of_emod_eq_zero c
    · exact absurd ⟨hi, c⟩ this
  · intro h i hm
    rw [mem_rests] at hm
    exact hm.2 (Int.emod_eq_zero_of_dvd (h i hm.1))
/-- one brick divides all, or both divide all but one side, which is a sum -/
def Fill (a b bx : List Int) : Prop := (∀ i, i < bx.length → gi a i ∣ gi bx i) ∨ (∀ i, i < bx.length → gi b i ∣ gi bx i) ∨
  ∃ ax, ax < bx.length ∧ (∀ i, i < bx.length → i ≠ ax → gi a i ∣ gi bx i ∧ gi b i ∣ gi bx i) ∧ isSum (gi a ax) (gi b ax) (gi bx ax) = true
theorem nodup_sing {l : List Nat} {ax : Nat} (hn : l.Nodup) (h0 : l ≠ []) (h : ∀ i ∈ l, i = ax) : l = [ax] := by
  cases l with
  | nil => exact absurd rfl h0
  | cons x l =>
    have hx := h x (List.mem_cons_self ..)
    subst hx
    cases l with
    | nil => rfl
    | cons y l =>
      have := h y (by simp)
      subst this
      simp at hn
theorem fillB_iff {a b bx : List Int} : fillB a b bx = true ↔ Fill a b bx := by
  unfold fillB Fill
  rw [← rests_nil, ← rests_nil]
  simp only [Bool.or_eq_true, Bool.and_eq_true, decide_eq_true_eq, List.isEmpty_iff]
  constructor
  · rintro ((h | h) | ⟨⟨h1, h2⟩, h3⟩)
    · exact .inl h
    · exact .inr (.inl h)
    · obtain ⟨ax, hax⟩ := List.length_eq_one_iff.mp h2
      rw [hax] at h3
      have hm := mem_rests.mp (show ax ∈ restsF a bx by rw [hax]; simp)
      refine .inr (.inr ⟨ax, hm.1, fun i hi hne => ?_, h3⟩)
      have n1 : i ∉ restsF a bx := by rw [hax]; simpa using hne
      have n2 : i ∉ restsF b bx := by rw [← h1]; exact n1
      rw [mem_rests] at n1 n2
      exact ⟨Int.dvd_of_emod_eq_zero (Classical.byContradiction fun c => n1 ⟨hi, c⟩), Int.dvd_of_emod_eq_zero (Classical.byContradiction fun c => n2 ⟨hi, c⟩)⟩
  · rintro (h | h | ⟨ax, hax, h1, h2⟩)
    · exact .inl (.inl h)
    · exact .inl (.inr h)
    · by_cases ea : restsF a bx = []
      · exact .inl (.inl ea)
      by_cases eb : restsF b bx = []
      · exact .inl (.inr eb)
      have q1 := nodup_sing (rests_nodup a bx) ea fun i hi => Classical.byContradiction fun c => (mem_rests.mp hi).2 (Int.emod_eq_zero_of_dvd (h1 i (mem_rests.mp hi).1 c).1)
      have q2 := nodup_sing (rests_nodup b bx) eb fun i hi => Classical.byContradiction fun c => (mem_rests.mp hi).2 (Int.emod_eq_zero_of_dvd (h1 i (mem_rests.mp hi).1 c).2)
      exact .inr ⟨⟨by rw [q1, q2], by rw [q1]; rfl⟩, by rw [q1]; exact h2⟩
end TW
set_option Elab.async false
set_option linter.all false
set_option maxRecDepth 100000
set_option maxHeartbeats 4000000
namespace TW
open PySem PySem.Spec PyProof.Rows L2 DL
@[simp] theorem endsM_nx (i : Nat) (cs : List Cell) (R : Cell → List Cell → Prop) (δ : DS) : (endsM i cs R).nx δ = (sameIo cs δ ∧ cs.length ≤ i ∧ ∃ a xs, δ[i]? = some (.ol a xs) ∧ R (.ol a xs) (outC cs δ)) := rfl
def sp_crossingM : DSpM := fun cs R => ∃ a b bx, cs = [.d (prD a b), .d (tI bx)] ∧ PB a b bx ∧ ∀ q, R (.ol q ((crossF a b bx).map crD)) cs
def optD : PyData → Option PyData
  | .none => none
  | d => some d
/-- all papers that are no cuts, as they are found -/
def barsL (a b bx : List Int) : List PyData := (crossF a b bx).map crD ++ (List.range bx.length).filterMap fun ax => optD (barD a b bx ax)
def barsF (a b bx : List Int) : List PyData := sortD (barsL a b bx)
def sp_bar_papers : DSp := fun cs R => ∃ a b bx, cs = [.d (prD a b), .d (tI bx)] ∧ PB a b bx ∧ R (.tuple (barsF a b bx)) cs
def w_crossingM_1 : DTS := (wExtend 2 (wOfL (wComp (iSeq (wCall [] sp_rests (wCons (wOp pIx (wVar 0) (wC (.int 1))) (wCons (wVar 1) wNil)))) (gN 4) (wB (wOp pNe (wVar 3) (wVar 4))) (wTup (wCons (wC (.str "sides")) (wCons (wVar 3) (wCons (wVar 4) wNil)))) [4])))
def w_crossingM_s1 : DTS := (wSeq (wFor (iSeq (wCall [] sp_rests (wCons (wOp pIx (wVar 0) (wC (.int 0))) (wCons (wVar 1) wNil)))) (gN 3) w_crossingM_1) wNext)
@[simp ↓] theorem w_crossingM_s1_ap (E : DEnds) (δ : DS) : w_crossingM_s1 E δ = (wSeq (wFor (iSeq (wCall [] sp_rests (wCons (wOp pIx (wVar 0) (wC (.int 0))) (wCons (wVar 1) wNil)))) (gN 3) w_crossingM_1) wNext) E δ := rfl
def w_crossingM : DTS := (wSeq (wSet 2 (mL (wLst wNil))) w_crossingM_s1)
def w_bar_papers_s1 : DTS := (wIf (wB (wOp pIsNot (wVar 4) (wC .none))) (wAppend 2 (wVar 4)) wNext)
@[simp ↓] theorem w_bar_papers_s1_ap (E : DEnds) (δ : DS) : w_bar_papers_s1 E δ = (wIf (wB (wOp pIsNot (wVar 4) (wC .none))) (wAppend 2 (wVar 4)) wNext) E δ := rfl
def w_bar_papers_1 : DTS := (wSeq (wSet 4 (mE (wCall [] sp_bar_along (wCons (wVar 0) (wCons (wVar 1) (wCons (wVar 3) wNil)))))) w_bar_papers_s1)
def w_bar_papers_t1 : DTS := (wRet (wFn pTupOf (wCons (wFn pSorted (wCons (wVar 2) wNil)) wNil)))
def w_bar_papers_s2 : DTS := (wSeq (wFor (iRange1 (wCons (wFn pLen (wCons (wVar 1) wNil)) wNil)) (gN 3) w_bar_papers_1) w_bar_papers_t1)
@[simp ↓] theorem w_bar_papers_s2_ap (E : DEnds) (δ : DS) : w_bar_papers_s2 E δ = (wSeq (wFor (iRange1 (wCons (wFn pLen (wCons (wVar 1) wNil)) wNil)) (gN 3) w_bar_papers_1) w_bar_papers_t1) E δ := rfl
def w_bar_papers : DTS := (wSeq (wSet 2 (wCallM [] sp_crossingM (wCons (wVar 0) (wCons (wVar 1) wNil)))) w_bar_papers_s2)
theorem ln_crossingM : ∀ cs R, sp_crossingM cs R → cs.length = 2 := by
  intro cs R h
  unfold sp_crossingM at h
  repeat (obtain ⟨_, h⟩ := h)
  subst_vars; rfl
theorem ln_bar_papers : ∀ cs R, sp_bar_papers cs R → cs.length = 2 := by
  intro cs R h
  unfold sp_bar_papers at h
  repeat (obtain ⟨_, h⟩ := h)
  subst_vars; rfl
end TW
set_option Elab.async false
set_option linter.all false
set_option maxRecDepth 100000
set_option maxHeartbeats 4000000
namespace TW
open PySem PySem.Spec PyProof.Rows L2 DL
theorem rd_crossingM : ∀ cs R, sp_crossingM cs R → w_crossingM (endsM 2 cs R) (start0 5 cs) := by
  rintro _ R ⟨a, b, bx, rfl, h, hR⟩
  simp -implicitDefEqProofs -dsimp [w_crossingM]
  intro q
  refine ask_of (sp := sp_rests) ⟨a, bx, rfl, by have := h.la; omega, fun x hx => (h.pa x hx).1, ?_⟩
  (try simp -implicitDefEqProofs -dsimp)
  refine for_plain (restsF a bx) (fun (i : Nat) => PyData.int (i : Int)) rfl (fun rest δ => ∃ (c3 c4 : Cell) (done : List (Nat × Nat)), δ = [.d (prD a b), .d (tI bx), .ol q (done.map crD), c3, c4] ∧ done ++ (rest.flatMap fun i => ((restsF b bx).filter fun j => !decide (i = j)).map fun j => (i, j)) = crossF a b bx ∧ done.length + rest.length * 10 ≤ 100) ⟨_, _, [], rfl, rfl, ?_⟩ ?_ ?_
  · have := rests_len a bx
    have := h.l1
    simp; omega
  · rintro δ ⟨c3, c4, done, rfl, hd, _⟩
    have e : done = crossF a b bx := by simpa using hd
    subst e
    (try simp -implicitDefEqProofs -dsimp)
    exact ⟨_, _, ⟨rfl, rfl⟩, hR _⟩
  · rintro i rest δ ⟨c3, c4, done, rfl, hd, hl⟩ K B T hK
    simp -implicitDefEqProofs -dsimp [w_crossingM_1]
    refine ⟨⟨q, _, rfl⟩, ask_of (sp := sp_rests) ⟨b, bx, rfl, by have := h.lb; omega, fun x hx => (h.pb x hx).1, ?_⟩⟩
    (try simp -implicitDefEqProofs -dsimp)
    refine com_map (restsF b bx) (fun (j : Nat) => PyData.int (j : Int)) rfl (fun j => if (!decide (i = j)) = true then some (crD (i, j)) else none) (fun j hj acc K hK => ?_) ?_
    · (try simp -implicitDefEqProofs -dsimp)
      by_cases z : i = j
      · subst z
        simpa using hK
      · have z' : ¬ ((i : Int) = (j : Int)) := fun e => z (by omega)
        simp [z']
        simpa [z, crD] using hK
    · rw [fm_map]
      (try simp -implicitDefEqProofs -dsimp)
      have e : List.map (fun j => crD (i, j)) (List.filter (fun a => !decide (i = a)) (restsF b bx)) = (((restsF b bx).filter fun j => !decide (i = j)).map fun j => (i, j)).map crD := by
        rw [List.map_map]; simp [Function.comp_def]
      have l1 := Nat.le_trans (List.length_filter_le (fun j => !decide (i = j)) (restsF b bx)) (rests_len b bx)
      have l2 := h.l1
      simp only [List.length_cons] at hl
      refine ⟨?_, ?_⟩
      · omega
      · rw [e, ← List.map_append]
        refine hK _ ⟨_, _, done ++ _, rfl, ?_, ?_⟩
        · rw [← hd, List.flatMap_cons, List.append_assoc]
        · rw [List.length_append, List.length_map]; omega

/-- what a paper looks like: a word, numbers -/
def IsPap (d : PyData) : Prop := ∃ (w : Str) (ns : List Int), d = .tuple (.str w :: lI ns) ∧ ns.length ≤ 4
theorem alikeI : ∀ (xs ys : List Int), W.alikeAll (lI xs) (lI ys) = true
  | [], ys => by simp [lI, W.alikeAll]
  | x :: xs, [] => by simp [lI, W.alikeAll]
  | x :: xs, y :: ys => by
    have := alikeI xs ys
    simp only [lI, List.map_cons, W.alikeAll, W.alike, Bool.true_and] at this ⊢
    exact this
theorem pap_alike {x y : PyData} (hx : IsPap x) (hy : IsPap y) : W.alike x y = true := by
  obtain ⟨w, ns, rfl, _⟩ := hx
  obtain ⟨v, ms, rfl, _⟩ := hy
  simp only [W.alike, W.alikeAll, Bool.true_and]
  exact alikeI ns ms
theorem pap_cr (p : Nat × Nat) : IsPap (crD p) := ⟨"sides", [(p.1 : Int), (p.2 : Int)], rfl, by simp⟩
theorem pap_bar {a b bx : List Int} {ax : Nat} {d : PyData} (h : optD (barD a b bx ax) = some d) : IsPap d := by
  unfold barD barF at h
  split at h
  · cases h; exact ⟨"step", [(ax : Int)], rfl, by simp⟩
  · rename_i t _
    split at h
    · cases h; exact ⟨"gap", [(ax : Int), t, _], rfl, by simp⟩
    · cases h
theorem pap_bars {a b bx : List Int} {d : PyData} (h : d ∈ barsL a b bx) : IsPap d := by
  unfold barsL at h
  rcases List.mem_append.mp h with h | h
  · obtain ⟨p, _, rfl⟩ := List.mem_map.mp h
    exact pap_cr p
  · obtain ⟨ax, _, e⟩ := List.mem_filterMap.mp h
    exact pap_bar e
theorem pap_depth {d : PyData} (h : IsPap d) : d.depth ≤ 50 := by
  obtain ⟨w, ns, rfl, _⟩ := h
  have := depth_ints ns
  simp only [PyData.depth, PyData.depthAll] at this ⊢
  rw [this]; simp
theorem pap_sort {L : List PyData} (h : ∀ d ∈ L, IsPap d) : W.AllAlike L ∧ W.Sortable L ∧ ∀ d ∈ L, d.depth ≤ 50 :=
  ⟨fun x hx y hy => pap_alike (h x hx) (h y hy), .inl fun x hx => by obtain ⟨w, ns, rfl, _⟩ := h x hx; exact ⟨_, _, rfl⟩, fun x hx => pap_depth (h x hx)⟩
theorem cross_len {a b bx : List Int} (h : bx.length ≤ 10) : (crossF a b bx).length ≤ 100 := by
  unfold crossF
  have : ∀ l : List Nat, (l.flatMap fun i => ((restsF b bx).filter fun j => !decide (i = j)).map fun j => (i, j)).length ≤ l.length * 10 := by
    intro l
    induction l with
    | nil => simp
    | cons x l ih =>
      rw [List.flatMap_cons, List.length_append, List.length_map, List.length_cons]
      have l1 := Nat.le_trans (List.length_filter_le (fun j => !decide (x = j)) (restsF b bx)) (rests_len b bx)
      omega
  have := this (restsF a bx)
  have := rests_len a bx
  omega
theorem askM_of {sp : DSpM} {cs : List Cell} {K : Cell → List Cell → Prop} {u : Stop K} (h : sp cs K) : askM sp cs K u := h
theorem fm_len {α β : Type} (f : α → Option β) (l : List α) : (l.filterMap f).length ≤ l.length := List.length_filterMap_le f l
theorem rd_bar_papers : ∀ cs R, sp_bar_papers cs R → w_bar_papers (endsOf cs R) (start0 5 cs) := by
  rintro _ R ⟨a, b, bx, rfl, h, hR⟩
  have l1 := h.l1
  simp -implicitDefEqProofs -dsimp [w_bar_papers]
  refine askM_of ⟨a, b, bx, rfl, h, fun q => ?_⟩
  (try simp -implicitDefEqProofs -dsimp)
  refine ⟨by omega, ?_⟩
  refine for_cnt 0 bx.length (fun i δ => ∃ c3 c4, δ = [.d (prD a b), .d (tI bx), .ol q ((crossF a b bx).map crD ++ (List.range i).filterMap fun ax => optD (barD a b bx ax)), c3, c4]) ⟨.em, .em, by simp⟩ ?_ ?_
  · rintro δ ⟨c3, c4, rfl⟩
    (try simp -implicitDefEqProofs -dsimp)
    have o := pap_sort (L := barsL a b bx) fun d hd => pap_bars hd
    refine ⟨o.1, o.2.1, ?_, o.2.2, ?_⟩
    · have := cross_len (a := a) (b := b) l1
      have := fm_len (fun ax => optD (barD a b bx ax)) (List.range bx.length)
      rw [List.length_range] at this
      rw [List.length_append, List.length_map]; omega
    · (try simp -implicitDefEqProofs -dsimp)
      exact hR
  · rintro i δ hi ⟨c3, c4, rfl⟩ K B T hK
    have hi' : (List.range (i + 1)).filterMap (fun ax => optD (barD a b bx ax)) = (List.range i).filterMap (fun ax => optD (barD a b bx ax)) ++ (optD (barD a b bx i)).toList := by
      rw [List.range_succ, List.filterMap_append]
      cases e : optD (barD a b bx i) <;> simp [e]
    have l2 := cross_len (a := a) (b := b) l1
    have l3 := fm_len (fun ax => optD (barD a b bx ax)) (List.range i)
    rw [List.length_range] at l3
    rw [hi'] at hK
    simp -implicitDefEqProofs -dsimp [w_bar_papers_1]
    refine ask_of (sp := sp_bar_along) ⟨a, b, bx, i, rfl, h, hi, ?_⟩
    rcases bar_shape a b bx i with e | ⟨r, e⟩ | ⟨r, e⟩
    · rw [e] at hK ⊢
      simp -implicitDefEqProofs -dsimp [isNone]
      rw [show (optD PyData.none).toList = [] from rfl, List.append_nil] at hK
      exact hK _ ⟨_, _, rfl⟩
    · rw [e] at hK ⊢
      simp -implicitDefEqProofs -dsimp [isNone]
      exact ⟨⟨_, _, rfl⟩, by omega, hK _ ⟨_, _, rfl⟩⟩
    · rw [e] at hK ⊢
      simp -implicitDefEqProofs -dsimp [isNone]
      exact ⟨⟨_, _, rfl⟩, by omega, hK _ ⟨_, _, rfl⟩⟩
end TW
set_option Elab.async false
set_option linter.all false
set_option maxRecDepth 100000
set_option maxHeartbeats 4000000
namespace TW
open PySem PySem.Spec PyProof.Rows L2 DL
end TW
set_option Elab.async false
set_option linter.all false
set_option maxRecDepth 100000
set_option maxHeartbeats 4000000
namespace TW
open PySem PySem.Spec PyProof.Rows L2 DL
def cellsStep (found : List (List Int)) (side : Int) : List (List Int) := found.flatMap fun cell => (List.range side.toNat).map fun (k : Nat) => cell ++ [(k : Int)]
/-- all cells of a box, in order -/
def cellsF (ns : List Int) : List (List Int) := ns.foldl cellsStep [[]]
/-- no list that is made on the way is too long -/
def CellsOk (ns : List Int) : Prop := (∀ x ∈ ns, 0 ≤ x) ∧ ∀ k, k ≤ ns.length → vol (ns.take k) ≤ 1000000
end TW
set_option Elab.async false
set_option linter.all false
set_option maxRecDepth 100000
set_option maxHeartbeats 4000000
namespace TW
open PySem PySem.Spec PyProof.Rows L2 DL
theorem step_len (found : List (List Int)) (s : Int) : (cellsStep found s).length = found.length * s.toNat := by
  unfold cellsStep
  induction found with
  | nil => simp
  | cons x xs ih => rw [List.flatMap_cons, List.length_append, ih, List.length_map, List.length_range, List.length_cons, Nat.succ_mul, Nat.add_comm]
theorem cells_app (ns : List Int) (s : Int) : cellsF (ns ++ [s]) = cellsStep (cellsF ns) s := by unfold cellsF; rw [List.foldl_append]; rfl
theorem vol_app (ns : List Int) (s : Int) : vol (ns ++ [s]) = vol ns * s := by unfold vol; rw [foldl_app]
theorem cells_len : ∀ (n : Nat) (ns : List Int), ns.length = n → (∀ x ∈ ns, 0 ≤ x) → ((cellsF ns).length : Int) = vol ns
  | 0, ns, hl, _ => by rw [List.length_eq_zero_iff.mp hl]; rfl
  | n + 1, ns, hl, h => by
    obtain ⟨ms, s, rfl⟩ : ∃ ms s, ns = ms ++ [s] := ⟨ns.dropLast, ns.getLast (by intro e; rw [e] at hl; cases hl), (List.dropLast_concat_getLast _).symm⟩
    have hs := h s (by simp)
    rw [cells_app, vol_app, step_len, Int.natCast_mul, cells_len n ms (by simpa using hl) fun x hx => h x (by simp [hx]), Int.toNat_of_nonneg hs]
theorem vol_pre {as bs : List Int} (h : ∀ x ∈ as ++ bs, 1 ≤ x) : vol as ≤ vol (as ++ bs) := by
  have e : vol (as ++ bs) = vol as * vol bs := by
    induction as with
    | nil => rw [List.nil_append]; show _ = 1 * _; omega
    | cons a as ih =>
      rw [List.cons_append, vol_cons, vol_cons, ih fun x hx => h x (by simp at hx ⊢; exact .inr hx), Int.mul_assoc]
  rw [e]
  have a1 := vol_pos (ns := as) fun x hx => h x (by simp [hx])
  have b1 := vol_pos (ns := bs) fun x hx => h x (by simp [hx])
  have := Int.mul_le_mul_of_nonneg_left b1 (show 0 ≤ vol as by omega)
  omega
theorem cells_lens : ∀ (n : Nat) (ns : List Int), ns.length = n → ∀ c ∈ cellsF ns, c.length = n
  | 0, ns, hl, c, hc => by rw [List.length_eq_zero_iff.mp hl] at hc; simp [cellsF] at hc; rw [hc]; rfl
  | n + 1, ns, hl, c, hc => by
    obtain ⟨ms, s, rfl⟩ : ∃ ms s, ns = ms ++ [s] := ⟨ns.dropLast, ns.getLast (by intro e; rw [e] at hl; cases hl), (List.dropLast_concat_getLast _).symm⟩
    rw [cells_app] at hc
    unfold cellsStep at hc
    rw [List.mem_flatMap] at hc
    obtain ⟨d, hd, hc⟩ := hc
    rw [List.mem_map] at hc
    obtain ⟨k, _, rfl⟩ := hc
    rw [List.length_append, cells_lens n ms (by simpa using hl) d hd]; rfl
/-- which cells they are -/
theorem mem_cells : ∀ (n : Nat) (ns : List Int), ns.length = n → ∀ c : List Int, c ∈ cellsF ns ↔ c.length = n ∧ ∀ i, i < n → 0 ≤ gi c i ∧ gi c i < gi ns i
  | 0, ns, hl, c => by
    rw [List.length_eq_zero_iff.mp hl]
    simp [cellsF]
  | n + 1, ns, hl, c => by
    obtain ⟨ms, s, rfl⟩ : ∃ ms s, ns = ms ++ [s] := ⟨ns.dropLast, ns.getLast (by intro e; rw [e] at hl; cases hl), (List.dropLast_concat_getLast _).symm⟩
    have hm : ms.length = n := by simpa using hl
    rw [cells_app]
    unfold cellsStep
    simp only [List.mem_flatMap, List.mem_map, List.mem_range]
    have gl : ∀ {as : List Int} {x : Int} {i : Nat}, i < as.length → gi (as ++ [x]) i = gi as i := fun h => by unfold gi; rw [List.getElem?_append_left h]
    have ge : ∀ {as : List Int} {x : Int} {i : Nat}, i = as.length → gi (as ++ [x]) i = x := fun h => by subst h; unfold gi; simp
    constructor
    · rintro ⟨d, hd, k, hk, rfl⟩
      obtain ⟨h1, h2⟩ := (mem_cells n ms hm d).mp hd
      refine ⟨by simp [h1], fun i hi => ?_⟩
      by_cases q : i < n
      · rw [gl (by omega), gl (by omega)]; exact h2 i q
      · rw [ge (by omega), ge (by omega)]; omega
    · rintro ⟨h1, h2⟩
      obtain ⟨d, x, rfl⟩ : ∃ d x, c = d ++ [x] := ⟨c.dropLast, c.getLast (by intro e; rw [e] at h1; cases h1), (List.dropLast_concat_getLast _).symm⟩
      have hd : d.length = n := by simpa using h1
      have hx := h2 n (by omega)
      rw [ge (by omega), ge (by omega)] at hx
      refine ⟨d, (mem_cells n ms hm d).mpr ⟨hd, fun i hi => ?_⟩, x.toNat, by omega, by rw [Int.toNat_of_nonneg hx.1]⟩
      have := h2 i (by omega)
      rwa [gl (by omega), gl (by omega)] at this
theorem CellsOk.of {ns : List Int} (h1 : ∀ x ∈ ns, 1 ≤ x) (h2 : vol ns ≤ 1000000) : CellsOk ns := ⟨fun x hx => by have := h1 x hx; omega, fun k _ => by
  have := vol_pre (as := ns.take k) (bs := ns.drop k) fun x hx => h1 x (by rwa [List.take_append_drop] at hx)
  rw [List.take_append_drop] at this
  omega⟩
end TW
set_option Elab.async false
set_option linter.all false
set_option maxRecDepth 100000
set_option maxHeartbeats 4000000
namespace TW
open PySem PySem.Spec PyProof.Rows L2 DL
def sp_Lwith : DSp := fun cs R => ∃ (ds : List PyData) (i : Nat) (d : PyData), cs = [.d (.tuple ds), .d (.int (i : Int)), .d d] ∧ i < ds.length ∧ ds.length ≤ 100000 ∧ R (.tuple (ds.set i d)) cs
def w_Lwith : DTS := (wRet (wOp pAddB (wOp pAddB (wSl pSl (wVar 0) wNoP (wPart (wVar 1))) (wTup (wCons (wVar 2) wNil))) (wSl pSl (wVar 0) (wPart (wOp pAddB (wVar 1) (wC (.int 1)))) wNoP)))
theorem ln_Lwith : ∀ cs R, sp_Lwith cs R → cs.length = 3 := by
  intro cs R h
  unfold sp_Lwith at h
  repeat (obtain ⟨_, h⟩ := h)
  subst_vars; rfl
end TW
set_option Elab.async false
set_option linter.all false
set_option maxRecDepth 100000
set_option maxHeartbeats 4000000
namespace TW
open PySem PySem.Spec PyProof.Rows L2 DL
theorem rd_Lwith : ∀ cs R, sp_Lwith cs R → w_Lwith (endsOf cs R) (start0 3 cs) := by
  rintro _ R ⟨ds, i, d, rfl, hi, hl, hR⟩
  have e := cut_put (y := d) hi
  rw [List.append_assoc, List.singleton_append] at e
  simp -implicitDefEqProofs -dsimp [w_Lwith, e]
  have l1 : (DL.cutD ds none (some (i : Int))).length ≤ 100000 := by rw [cutD_take]; simp; omega
  have l2 : (DL.cutD ds (some ((i : Int) + 1)) none).length ≤ 100000 := by rw [cutD_drop1]; simp; omega
  exact ⟨by omega, by omega, hR⟩
theorem all_gi {P : Int → Prop} {ns : List Int} (h : ∀ i, i < ns.length → P (gi ns i)) : ∀ x ∈ ns, P x := fun x hx => by
  obtain ⟨i, hi, e⟩ := List.mem_iff_getElem.mp hx
  have := h i hi
  have g := gi_at hi
  rw [List.getElem?_eq_getElem hi, e] at g
  rw [← Option.some.inj g] at this
  exact this
end TW
set_option Elab.async false
set_option linter.all false
set_option maxRecDepth 100000
set_option maxHeartbeats 4000000
namespace TW
open PySem PySem.Spec PyProof.Rows L2 DL
def wholeB (lo hi : Int) : PyData → Bool
  | .int i => decide (lo ≤ i) && decide (i ≤ hi)
  | _ => false
def sp_is_integer : DSp := fun cs R => ∃ d lo hi, cs = [.d d, .d (.int lo), .d (.int hi)] ∧ R (.bool (wholeB lo hi d)) [.d d, .d (.int lo), .d (.int hi)]
def w_is_integer : DTS := (wRet (wAndV (wIsi "int" (wVar 0)) (wAndV (wNotV (wIsi "bool" (wVar 0))) (wChain pLe pLe (wVar 1) (wVar 0) (wVar 2)))))
theorem ln_is_integer : ∀ cs R, sp_is_integer cs R → cs.length = 3 := by
  intro cs R h
  unfold sp_is_integer at h
  repeat (obtain ⟨_, h⟩ := h)
  subst_vars; rfl
end TW
set_option Elab.async false
set_option linter.all false
set_option maxRecDepth 100000
set_option maxHeartbeats 4000000
namespace TW
open PySem PySem.Spec PyProof.Rows L2 DL
@[simp] theorem isTy_int_i (i : Int) : isTy "int" (.int i) = true := by rw [isTy, tyName]; decide
@[simp] theorem isTy_int_b (i : Bool) : isTy "int" (.bool i) = true := by rw [isTy, tyName]; decide
@[simp] theorem isTy_int_n : isTy "int" .none = false := by rw [isTy, tyName]; decide
@[simp] theorem isTy_int_s (i : Str) : isTy "int" (.str i) = false := by rw [isTy, tyName]; decide
@[simp] theorem isTy_int_l (i : List PyData) : isTy "int" (.list i) = false := by rw [isTy, tyName]; decide
@[simp] theorem isTy_int_t (i : List PyData) : isTy "int" (.tuple i) = false := by rw [isTy, tyName]; decide
@[simp] theorem isTy_int_d (i : List (PyData × PyData)) : isTy "int" (.dict i) = false := by cases i <;> (rw [isTy, tyName]; decide)
@[simp] theorem isTy_bool_i (i : Int) : isTy "bool" (.int i) = false := by rw [isTy, tyName]; decide
@[simp] theorem isTy_bool_b (i : Bool) : isTy "bool" (.bool i) = true := by rw [isTy, tyName]; decide
@[simp] theorem isTy_bool_n : isTy "bool" .none = false := by rw [isTy, tyName]; decide
@[simp] theorem isTy_bool_s (i : Str) : isTy "bool" (.str i) = false := by rw [isTy, tyName]; decide
@[simp] theorem isTy_bool_l (i : List PyData) : isTy "bool" (.list i) = false := by rw [isTy, tyName]; decide
@[simp] theorem isTy_bool_t (i : List PyData) : isTy "bool" (.tuple i) = false := by rw [isTy, tyName]; decide
@[simp] theorem isTy_bool_d (i : List (PyData × PyData)) : isTy "bool" (.dict i) = false := by cases i <;> (rw [isTy, tyName]; decide)
@[simp] theorem isTy_tuple_i (i : Int) : isTy "tuple" (.int i) = false := by rw [isTy, tyName]; decide
@[simp] theorem isTy_tuple_b (i : Bool) : isTy "tuple" (.bool i) = false := by rw [isTy, tyName]; decide
@[simp] theorem isTy_tuple_n : isTy "tuple" .none = false := by rw [isTy, tyName]; decide
@[simp] theorem isTy_tuple_s (i : Str) : isTy "tuple" (.str i) = false := by rw [isTy, tyName]; decide
@[simp] theorem isTy_tuple_l (i : List PyData) : isTy "tuple" (.list i) = false := by rw [isTy, tyName]; decide
@[simp] theorem isTy_tuple_t (i : List PyData) : isTy "tuple" (.tuple i) = true := by rw [isTy, tyName]; decide
@[simp] theorem isTy_tuple_d (i : List (PyData × PyData)) : isTy "tuple" (.dict i) = false := by cases i <;> (rw [isTy, tyName]; decide)
@[simp] theorem isTy_str_i (i : Int) : isTy "str" (.int i) = false := by rw [isTy, tyName]; decide
@[simp] theorem isTy_str_b (i : Bool) : isTy "str" (.bool i) = false := by rw [isTy, tyName]; decide
@[simp] theorem isTy_str_n : isTy "str" .none = false := by rw [isTy, tyName]; decide
@[simp] theorem isTy_str_s (i : Str) : isTy "str" (.str i) = true := by rw [isTy, tyName]; decide
@[simp] theorem isTy_str_l (i : List PyData) : isTy "str" (.list i) = false := by rw [isTy, tyName]; decide
@[simp] theorem isTy_str_t (i : List PyData) : isTy "str" (.tuple i) = false := by rw [isTy, tyName]; decide
@[simp] theorem isTy_str_d (i : List (PyData × PyData)) : isTy "str" (.dict i) = false := by cases i <;> (rw [isTy, tyName]; decide)
theorem rd_is_integer : ∀ cs R, sp_is_integer cs R → w_is_integer (endsOf cs R) (start0 3 cs) := by
  rintro _ R ⟨d, lo, hi, rfl, hR⟩
  cases d with
  | int i =>
    simp -implicitDefEqProofs -dsimp [w_is_integer]
    have hR : R (.bool (decide (lo ≤ i) && decide (i ≤ hi))) [.d (.int i), .d (.int lo), .d (.int hi)] := hR
    by_cases h : lo ≤ i
    · rw [if_pos h]
      simpa [h] using hR
    · rw [if_neg h]
      simpa [h] using hR
  | bool b => simp -implicitDefEqProofs -dsimp [w_is_integer]; exact hR
  | none => simp -implicitDefEqProofs -dsimp [w_is_integer]; exact hR
  | str z => simp -implicitDefEqProofs -dsimp [w_is_integer]; exact hR
  | list z => simp -implicitDefEqProofs -dsimp [w_is_integer]; exact hR
  | tuple z => simp -implicitDefEqProofs -dsimp [w_is_integer]; exact hR
  | dict z => simp -implicitDefEqProofs -dsimp [w_is_integer]; exact hR
end TW
set_option Elab.async false
set_option linter.all false
set_option maxRecDepth 100000
set_option maxHeartbeats 4000000
namespace DL
open PySem PySem.Spec PyProof.Rows L2
variable [Tb]
inductive Pt
  | val (d : PyData)
  | cap (i : Nat)
def eachM : List Pt → List PyData → (Option (List (Nat × PyData)) → Prop) → Prop
  | [], [], k => k (some [])
  | .val d :: ps, x :: xs, k => pEq x d fun z => ∃ b, z = .bool b ∧ if b = true then eachM ps xs k else k none
  | .cap i :: ps, x :: xs, k => eachM ps xs fun o => match o with
    | none => k none
    | some bs => k (some ((i, x) :: bs))
  | _, _, _ => False
def setsD (δ : DS) : List (Nat × PyData) → DS
  | [] => δ
  | (i, x) :: r => setsD (δ.set i (.d x)) r
inductive Ct
  | seq (ps : List Pt) (b : DTS)
  | wild (b : DTS)
def caseM : List Ct → List PyData → DTS
  | [], _, E, δ => E.nx δ
  | .wild b :: _, _, E, δ => b E δ
  | .seq ps b :: cs, xs, E, δ => if xs.length = ps.length then eachM ps xs fun o => match o with
      | none => caseM cs xs E δ
      | some bs => b E (setsD δ bs)
    else caseM cs xs E δ
def tpC (x : PyData) (k : List PyData → Prop) (_u : Stop k) : Prop := match x with
  | .tuple xs => k xs
  | _ => False
omit [Tb] in
@[simp ↓] theorem tpC_t (xs : List PyData) (k : List PyData → Prop) (u : Stop k) : tpC (.tuple xs) k u = k xs := rfl
def wMatch (w : DE) (cs : List Ct) : DTS := fun E δ => w δ fun o δ1 => lk o δ1 fun x δ2 => tpC x (fun xs => xs.length ≤ 1000000 ∧ caseM cs xs E δ2) .mk
omit [Tb] in
@[simp ↓] theorem wMatch_ap (w : DE) (cs : List Ct) (E : DEnds) (δ : DS) : wMatch w cs E δ = (w δ fun o δ1 => lk o δ1 fun x δ2 => tpC x (fun xs => xs.length ≤ 1000000 ∧ caseM cs xs E δ2) .mk) := rfl
omit [Tb] in
@[simp ↓] theorem eachM_nil (k : Option (List (Nat × PyData)) → Prop) : eachM [] [] k = k (some []) := rfl
omit [Tb] in
@[simp ↓] theorem eachM_val (d x : PyData) (ps : List Pt) (xs : List PyData) (k : Option (List (Nat × PyData)) → Prop) : eachM (.val d :: ps) (x :: xs) k = (pEq x d fun z => ∃ b, z = .bool b ∧ if b = true then eachM ps xs k else k none) := rfl
omit [Tb] in
@[simp ↓] theorem eachM_cap (i : Nat) (x : PyData) (ps : List Pt) (xs : List PyData) (k : Option (List (Nat × PyData)) → Prop) : eachM (.cap i :: ps) (x :: xs) k = (eachM ps xs fun o => match o with
    | none => k none
    | some bs => k (some ((i, x) :: bs))) := rfl
omit [Tb] in
@[simp ↓] theorem caseM_nil (xs : List PyData) (E : DEnds) (δ : DS) : caseM [] xs E δ = E.nx δ := rfl
omit [Tb] in
@[simp ↓] theorem caseM_wild (b : DTS) (cs : List Ct) (xs : List PyData) (E : DEnds) (δ : DS) : caseM (.wild b :: cs) xs E δ = b E δ := rfl
omit [Tb] in
@[simp ↓] theorem caseM_seq (ps : List Pt) (b : DTS) (cs : List Ct) (xs : List PyData) (E : DEnds) (δ : DS) : caseM (.seq ps b :: cs) xs E δ = (if xs.length = ps.length then eachM ps xs fun o => match o with
      | none => caseM cs xs E δ
      | some bs => b E (setsD δ bs)
    else caseM cs xs E δ) := rfl
omit [Tb] in
@[simp ↓] theorem setsD_nil (δ : DS) : setsD δ [] = δ := rfl
omit [Tb] in
@[simp ↓] theorem setsD_cons (δ : DS) (i : Nat) (x : PyData) (r : List (Nat × PyData)) : setsD δ ((i, x) :: r) = setsD (δ.set i (.d x)) r := rfl
inductive PtOk (X : Cx) : List Pattern → List Pt → Prop
  | nil : PtOk X [] []
  | val {e : Expr} {v : V} {d : PyData} {pos : Pos} {ps : List Pattern} {qs : List Pt} (h : PE X e (tC v)) (hv : ∀ K G, Dn K G v d) (t : PtOk X ps qs) : PtOk X (.MatchValue e pos :: ps) (.val d :: qs)
  | cap {x : Str} {i : Nat} {pos : Pos} {ps : List Pattern} {qs : List Pt} (hi : X.N[i]? = some x) (hx : Loc X.env.scope x) (hf : X.fn x = true ∨ X.env.scope.names.lookup x = some .local) (t : PtOk X ps qs) : PtOk X (.MatchAs none (some x) pos :: ps) (.cap i :: qs)
theorem PtOk.len {X : Cx} {ps : List Pattern} {qs : List Pt} (h : PtOk X ps qs) : ps.length = qs.length := by
  induction h with
  | nil => rfl
  | val _ _ _ ih => simp [ih]
  | cap _ _ _ _ ih => simp [ih]
inductive BsOk (X : Cx) (G : Hp) : List (Str × Value) → List (Nat × PyData) → Prop
  | nil : BsOk X G [] []
  | cons {x : Str} {u : Value} {v : V} {i : Nat} {d : PyData} {bs : List (Str × Value)} {os : List (Nat × PyData)} (hi : X.N[i]? = some x) (hx : Loc X.env.scope x) (hf : X.fn x = true ∨ X.env.scope.names.lookup x = some .local) (r : RelV v u) (h : Dn X.K G v d) (t : BsOk X G bs os) : BsOk X G ((x, u) :: bs) ((i, d) :: os)
inductive RoOk (X : Cx) (G : Hp) : Option (List (Str × Value)) → Option (List (Nat × PyData)) → Prop
  | none : RoOk X G none none
  | some {bs : List (Str × Value)} {os : List (Nat × PyData)} (h : BsOk X G bs os) : RoOk X G (some bs) (some os)
section
variable {X : Cx}
inductive CsOk (X : Cx) : List MatchCase → List Ct → Prop
  | nil : CsOk X [] []
  | wild {body : List Stmt} {b : DTS} {pos : Pos} {rest : List MatchCase} {ws : List Ct} (hb : JSs X body b) : CsOk X (⟨.MatchAs none none pos, none, body⟩ :: rest) (.wild b :: ws)
  | seq {ps : List Pattern} {qs : List Pt} {pos : Pos} {body : List Stmt} {b : DTS} {rest : List MatchCase} {ws : List Ct} (h : PtOk X ps qs) (hstar : ps.findIdx? (·.isStar) = none) (hwild : (ps.all fun p => p.isWildcard || (p.isStar && p.names.isEmpty)) = false) (hb : JSs X body b) (t : CsOk X rest ws) : CsOk X (⟨.MatchSequence ps pos, none, body⟩ :: rest) (.seq qs b :: ws)
theorem PtOk.str {x : Str} {j : Nat} {p pos : Pos} {ps : List Pattern} {qs : List Pt} (t : PtOk X ps qs) : PtOk X (.MatchValue (.Constant (.str x) j p) pos :: ps) (.val (.str x) :: qs) := .val pe_str (fun _ _ => .str x) t
theorem PtOk.int {x : Int} {j : Nat} {p pos : Pos} {ps : List Pattern} {qs : List Pt} (t : PtOk X ps qs) : PtOk X (.MatchValue (.Constant (.int x) j p) pos :: ps) (.val (.int x) :: qs) := .val pe_int (fun _ _ => .int x) t
end
end DL
namespace DL
open PySem PySem.Spec PyProof.Rows L2
variable [Tb]
end DL
set_option Elab.async false
set_option linter.all false
set_option maxRecDepth 100000
set_option maxHeartbeats 4000000
namespace DL
open PySem PySem.Spec PyProof.Rows L2
variable [Tb]
def wPar4 (i j k l : Nat) (w : DMs) : DTS := fun E δ => w δ fun cs δ1 => ∃ c d e f, cs = [c, d, e, f] ∧ E.nx ((((δ1.set i c).set j d).set k e).set l f)
omit [Tb] in
@[simp ↓] theorem wPar4_ap (i j k l : Nat) (w : DMs) (E : DEnds) (δ : DS) : wPar4 i j k l w E δ = (w δ fun cs δ1 => match cs with
  | [c, d, e, f] => E.nx ((((δ1.set i c).set j d).set k e).set l f)
  | _ => False) := by
  unfold wPar4
  congr 1; funext cs δ1
  match cs with
  | [] => simp
  | [c] => simp
  | [c, d] => simp
  | [c, d, e] => simp
  | [c, d, e, f] => exact propext ⟨fun ⟨c', d', e', f', h0, h⟩ => by cases h0; exact h, fun h => ⟨c, d, e, f, rfl, h⟩⟩
  | c :: d :: e :: f :: g :: r => simp
section
variable {X : Cx} {pos : Pos}
end
end DL
set_option Elab.async false
set_option linter.all false
set_option maxRecDepth 100000
set_option maxHeartbeats 4000000
namespace DL
open PySem PySem.Spec PyProof.Rows L2
variable [Tb]
section
variable {X : Cx} {pos : Pos}
end
end DL
set_option Elab.async false
set_option linter.all false
set_option maxRecDepth 100000
set_option maxHeartbeats 4000000
namespace DL
open PySem PySem.Spec PyProof.Rows L2
variable [Tb]
section
variable {X : Cx}
def pMulW : P2 := fun x y R => match x, y with
  | .tuple xs, .int k => (0 < xs.length ∧ xs.length ≤ 10 ∧ 2 ≤ k ∧ k ≤ 100000) ∧ R (.tuple (List.replicate k.toNat xs).flatten)
  | _, _ => False
omit [Tb] in
@[simp ↓] theorem pMulW_ti (xs : List PyData) (k : Int) (R : PyData → Prop) : pMulW (.tuple xs) (.int k) R = ((0 < xs.length ∧ xs.length ≤ 10 ∧ 2 ≤ k ∧ k ≤ 100000) ∧ R (.tuple (List.replicate k.toNat xs).flatten)) := rfl
end
end DL
set_option Elab.async false
set_option linter.all false
set_option maxRecDepth 100000
set_option maxHeartbeats 4000000
namespace DL
open PySem PySem.Spec PyProof.Rows L2
variable [Tb]
section
variable {X : Cx} {nm : Option Str} {e : Expr} {kws : List Keyword} {kpos : Pos}
end
/-- in the parameters' order -/
def permO {α : Type} (z : α) (ix : List Nat) (os : List α) : List α := ix.map fun i => os.getD i z
def KB0 (K : PySem.W.Frag) (fd : FuncData) (ps ks : List Str) (ix : List Nat) : Prop :=
  ∀ (s : Shared) (ws : List Value), K.In s.heap → ws.length = ks.length → BindsTo s fd ⟨[], ks.zip ws⟩ (ps.zip (permO Value.none ix ws))
theorem KB0.of {K : PySem.W.Frag} {fd : FuncData} {ps ks : List Str} {ix : List Nat} (h : ∀ ws : List Value, ws.length = ks.length → bindArgs fd ⟨[], ks.zip ws⟩ = pure (ps.zip (permO Value.none ix ws))) : KB0 K fd ps ks ix := fun s ws _ hl => .of_eq (h ws hl)
theorem Fun.kb {K : PySem.W.Frag} {x qual : Str} {st : Stmt} {f : Addr} {fd : FuncData} {ps ks : List Str} {ix : List Nat} (F : Fun K x qual st f fd)
    (h : ∀ (kV doc pm : Value) (an : Option Addr) (cdv ct : Value) (ws : List Value), ws.length = ks.length → bindArgs (PySem.W.fnOf x qual (defArgs st) (defBody st) (defScope st) .none kV doc pm an cdv ct) ⟨[], ks.zip ws⟩ = pure (ps.zip (permO Value.none ix ws))) : KB0 K fd ps ks ix := by
  obtain ⟨oc, od, kV, doc, pm, an, cdv, ct, osl, rfl, lk, hcd⟩ := F.ex
  exact .of (h kV doc pm an cdv ct)
def wCallK (n : Nat) (ix : List Nat) (sp : DSp) (w : DA) : DE := fun δ R => w δ fun os δ1 => lkM [] os δ1 fun os' δ2 => (os'.length = n ∧ ∀ i ∈ ix, i < n) ∧ (slotsOf (permO (.d .none) ix os')).Nodup ∧ sp ((permO (.d .none) ix os').map (cellOf δ2)) fun x cs => R (.d x) (putBack (permO (.d .none) ix os') cs δ2)
theorem getD_some {α : Type} {l : List α} {i : Nat} (h : i < l.length) (z : α) : l[i]? = some (l.getD i z) := by
  rw [List.getD_eq_getElem?_getD, List.getElem?_eq_getElem h]; rfl
section
variable {X : Cx} {CX : CXT} {k : Nat} {f : Addr} {fd : FuncData} {ps ks : List Str} {x : Str} {p pos : Pos} {kws : List Keyword} {ix : List Nat}
end
omit [Tb] in
@[simp ↓] theorem wCallK_ap (n : Nat) (ix : List Nat) (sp : DSp) (w : DA) (δ : DS) (R : Opd → DS → Prop) : wCallK n ix sp w δ R = (w δ fun os δ1 => lkM [] os δ1 fun os' δ2 => (os'.length = n ∧ ∀ i ∈ ix, i < n) ∧ (slotsOf (permO (.d .none) ix os')).Nodup ∧ ask sp ((permO (.d .none) ix os').map (cellOf δ2)) (fun x cs => R (.d x) (putBack (permO (.d .none) ix os') cs δ2)) .mk) := rfl
omit [Tb] in
@[simp ↓] theorem permO_nil {α : Type} (z : α) (os : List α) : permO z [] os = [] := rfl
omit [Tb] in
@[simp ↓] theorem permO_cons {α : Type} (z : α) (i : Nat) (ix : List Nat) (os : List α) : permO z (i :: ix) os = os.getD i z :: permO z ix os := rfl
end DL
set_option Elab.async false
set_option linter.all false
set_option maxRecDepth 100000
set_option maxHeartbeats 4000000
namespace DL
open PySem PySem.Spec PyProof.Rows L2
variable [Tb]
abbrev KVs := List (List Int × PyData)
def valD (kvs : KVs) (k : List Int) : Option PyData := (kvs.find? fun p => decide (p.1 = k)).map (·.2)
def putD (kvs : KVs) (k : List Int) (x : PyData) : KVs := if (kvs.any fun p => decide (p.1 = k)) = true then kvs.map (fun p => if p.1 = k then (p.1, x) else p) else kvs ++ [(k, x)]
theorem keyI_inj : ∀ {a b : List Int}, keyI a = keyI b → a = b
  | [], [], _ => rfl
  | [], _ :: _, h => by simp [keyI] at h
  | _ :: _, [], h => by simp [keyI] at h
  | x :: a, y :: b, h => by
    have h : (Sum.inl x : Key) :: keyI a = (Sum.inl y : Key) :: keyI b := h
    obtain ⟨h1, h2⟩ := List.cons.inj h
    rw [keyI_inj h2, Sum.inl.inj h1]
section
variable {K : PySem.W.Frag} {G : Hp}
theorem DnK.nil : DnK K G [] [] := ⟨rfl, .nil⟩
theorem DnK.cons {w : List Key × V} {ws : List (List Key × V)} {p : List Int × PyData} {kvs : KVs} (h1 : w.1 = keyI p.1) (h2 : Dn K G w.2 p.2) (t : DnK K G ws kvs) : DnK K G (w :: ws) (p :: kvs) := ⟨by rw [List.map_cons, List.map_cons, h1, t.1], .cons h2 t.2⟩
theorem DnK.inv {ws : List (List Key × V)} {p : List Int × PyData} {kvs : KVs} (h : DnK K G ws (p :: kvs)) : ∃ w ws', ws = w :: ws' ∧ w.1 = keyI p.1 ∧ Dn K G w.2 p.2 ∧ DnK K G ws' kvs := by
  obtain ⟨h1, h2⟩ := h
  cases ws with
  | nil => simp at h1
  | cons w ws =>
    rw [List.map_cons, List.map_cons] at h1
    obtain ⟨a, b⟩ := List.cons.inj h1
    cases h2 with
    | cons c d => exact ⟨w, ws, rfl, a, c, b, d⟩
theorem DnK.inv0 {ws : List (List Key × V)} (h : DnK K G ws []) : ws = [] := by
  have := h.1
  cases ws with
  | nil => rfl
  | cons w ws => simp at this
theorem DnK.len : ∀ {kvs : KVs} {ws : List (List Key × V)}, DnK K G ws kvs → ws.length = kvs.length
  | [], ws, h => by rw [h.inv0]; rfl
  | p :: kvs, ws, h => by
    obtain ⟨w, ws', rfl, _, _, t⟩ := h.inv
    rw [List.length_cons, List.length_cons, t.len]
theorem DnK.mono {G' : Hp} {kvs : KVs} {ws : List (List Key × V)} (h : DnK K G ws kvs) (s : Same G G') : DnK K G' ws kvs := ⟨h.1, h.2.mono s⟩
theorem DnK.val (k : List Int) : ∀ {kvs : KVs} {ws : List (List Key × V)}, DnK K G ws kvs → (valD kvs k = none ∧ valV ws (keyI k) = none) ∨ ∃ x v, valD kvs k = some x ∧ valV ws (keyI k) = some v ∧ Dn K G v x
  | [], ws, h => by rw [h.inv0]; exact .inl ⟨rfl, rfl⟩
  | p :: kvs, ws, h => by
    obtain ⟨w, ws', rfl, e, d, t⟩ := h.inv
    by_cases q : p.1 = k
    · refine .inr ⟨p.2, w.2, by simp [valD, q], ?_, d⟩
      exact valV_pos (by rw [e, q])
    · have q2 : ¬ w.1 = keyI k := fun z => q (keyI_inj (e.symm.trans z))
      have v1 : valD (p :: kvs) k = valD kvs k := by simp [valD, q]
      rw [v1, valV_neg q2]
      exact t.val k
theorem DnK.snoc {k : List Int} {v : V} {x : PyData} (d : Dn K G v x) : ∀ {kvs : KVs} {ws : List (List Key × V)}, DnK K G ws kvs → DnK K G (ws ++ [(keyI k, v)]) (kvs ++ [(k, x)])
  | [], ws, h => by rw [h.inv0]; exact .cons rfl d .nil
  | p :: kvs, ws, h => by
    obtain ⟨w, ws', rfl, e, d', t⟩ := h.inv
    exact .cons e d' (t.snoc d)
theorem DnK.repl {k : List Int} {v : V} {x : PyData} (d : Dn K G v x) : ∀ {kvs : KVs} {ws : List (List Key × V)}, DnK K G ws kvs → DnK K G (ws.map fun w => if w.1 = keyI k then (w.1, v) else w) (kvs.map fun p => if p.1 = k then (p.1, x) else p)
  | [], ws, h => by rw [h.inv0]; exact .nil
  | p :: kvs, ws, h => by
    obtain ⟨w, ws', rfl, e, d', t⟩ := h.inv
    rw [List.map_cons, List.map_cons]
    refine .cons ?_ ?_ (t.repl d)
    · by_cases q : p.1 = k
      · rw [if_pos (by rw [e, q]), if_pos q]; exact e
      · rw [if_neg fun z => q (keyI_inj (e.symm.trans z)), if_neg q]; exact e
    · by_cases q : p.1 = k
      · rw [if_pos (by rw [e, q]), if_pos q]; exact d
      · rw [if_neg fun z => q (keyI_inj (e.symm.trans z)), if_neg q]; exact d'
theorem DnK.any (k : List Int) : ∀ {kvs : KVs} {ws : List (List Key × V)}, DnK K G ws kvs → (ws.any fun w => decide (w.1 = keyI k)) = kvs.any fun p => decide (p.1 = k)
  | [], ws, h => by rw [h.inv0]; rfl
  | p :: kvs, ws, h => by
    obtain ⟨w, ws', rfl, e, _, t⟩ := h.inv
    rw [List.any_cons, List.any_cons, t.any k]
    congr 1
    rw [decide_eq_decide, e]
    exact ⟨keyI_inj, fun q => by rw [q]⟩
theorem DnK.put {k : List Int} {v : V} {x : PyData} {kvs : KVs} {ws : List (List Key × V)} (h : DnK K G ws kvs) (d : Dn K G v x) : DnK K G (putK ws (keyI k) v) (putD kvs k x) := by
  unfold putK putD
  rw [h.any k]
  split
  · exact h.repl d
  · exact h.snoc d
end
def keyOf (x : PyData) (k : List Int → Prop) (_u : Stop k) : Prop := ∃ ns : List Int, x = .tuple (ns.map PyData.int) ∧ k ns
omit [Tb] in
@[simp ↓] theorem keyOf_t (ns : List Int) (k : List Int → Prop) (u : Stop k) : keyOf (.tuple (ns.map PyData.int)) k u = k ns :=
  propext ⟨fun ⟨ms, e, h⟩ => by rw [map_int_inj (PyData.tuple.inj e)]; exact h, fun h => ⟨ns, rfl, h⟩⟩
def odC (o : Option Cell) (k : Addr → KVs → Prop) (_u : Stop k) : Prop := ∃ a kvs, o = some (.od a kvs) ∧ k a kvs
omit [Tb] in
@[simp ↓] theorem odC_od (a : Addr) (kvs : KVs) (k : Addr → KVs → Prop) (u : Stop k) : odC (some (.od a kvs)) k u = k a kvs :=
  propext ⟨fun ⟨b, ks, e, h⟩ => by cases e; exact h, fun h => ⟨a, kvs, rfl, h⟩⟩
def isOd (δ : DS) (i : Nat) : Prop := ∃ a kvs, δ[i]? = some (.od a kvs)
section
variable {X : Cx} {e f : Expr} {pos pos' px : Pos} {x : Str} {i : Nat}
/-- {} -/
def mD : DM := fun δ R => ∀ a, R (.od a []) δ
def wDIn (i : Nat) (w : DE) : DE := fun δ R => w δ fun o δ1 => use o δ1 fun x => keyOf x (fun k => odC δ1[i]? (fun _ kvs => R (.d (.bool (valD kvs k).isSome)) δ1) .mk) .mk
def wDNotIn (i : Nat) (w : DE) : DE := fun δ R => w δ fun o δ1 => use o δ1 fun x => keyOf x (fun k => odC δ1[i]? (fun _ kvs => R (.d (.bool (!(valD kvs k).isSome))) δ1) .mk) .mk
/-- d[k] -/
def wDGet (i : Nat) (w : DE) : DE := fun δ R => isOd δ i ∧ w δ fun o δ1 => use o δ1 fun x => keyOf x (fun k => odC δ1[i]? (fun _ kvs => onS (valD kvs k) (fun y => R (.d y) δ1) .mk) .mk) .mk
/-- d[k] = v -/
def wDPut (i : Nat) (wk wv : DE) : DTS := fun E δ => isOd δ i ∧ wv δ fun o δ1 => lk o δ1 fun x δ2 => wk δ2 fun o2 δ3 => use o2 δ3 fun y => keyOf y (fun k => odC δ3[i]? (fun a kvs => kvs.length ≤ 1000000 ∧ E.nx (δ3.set i (.od a (putD kvs k x)))) .mk) .mk
end
omit [Tb] in
@[simp ↓] theorem mD_ap (δ : DS) (R : Cell → DS → Prop) : mD δ R = ∀ a, R (.od a []) δ := rfl
omit [Tb] in
@[simp ↓] theorem wDIn_ap (i : Nat) (w : DE) (δ : DS) (R : Opd → DS → Prop) : wDIn i w δ R = (w δ fun o δ1 => use o δ1 fun x => keyOf x (fun k => odC δ1[i]? (fun _ kvs => R (.d (.bool (valD kvs k).isSome)) δ1) .mk) .mk) := rfl
omit [Tb] in
@[simp ↓] theorem wDNotIn_ap (i : Nat) (w : DE) (δ : DS) (R : Opd → DS → Prop) : wDNotIn i w δ R = (w δ fun o δ1 => use o δ1 fun x => keyOf x (fun k => odC δ1[i]? (fun _ kvs => R (.d (.bool (!(valD kvs k).isSome))) δ1) .mk) .mk) := rfl
omit [Tb] in
@[simp ↓] theorem wDGet_ap (i : Nat) (w : DE) (δ : DS) (R : Opd → DS → Prop) : wDGet i w δ R = (isOd δ i ∧ w δ fun o δ1 => use o δ1 fun x => keyOf x (fun k => odC δ1[i]? (fun _ kvs => onS (valD kvs k) (fun y => R (.d y) δ1) .mk) .mk) .mk) := rfl
omit [Tb] in
@[simp ↓] theorem wDPut_ap (i : Nat) (wk wv : DE) (E : DEnds) (δ : DS) : wDPut i wk wv E δ = (isOd δ i ∧ wv δ fun o δ1 => lk o δ1 fun x δ2 => wk δ2 fun o2 δ3 => use o2 δ3 fun y => keyOf y (fun k => odC δ3[i]? (fun a kvs => kvs.length ≤ 1000000 ∧ E.nx (δ3.set i (.od a (putD kvs k x)))) .mk) .mk) := rfl
omit [Tb] in
@[simp ↓] theorem isOd_od (a : Addr) (kvs : KVs) (δ : DS) (i : Nat) (h : δ[i]? = some (.od a kvs)) : isOd δ i = True := eq_true ⟨a, kvs, h⟩
omit [Tb] in
@[simp ↓] theorem varC_od (a : Addr) (kvs : KVs) (i : Nat) (k : Opd → Prop) (u : Stop k) : varC (some (.od a kvs)) i k u = k (.s i) := rfl
omit [Tb] in
@[simp] theorem sameIo_od (a : Addr) (xs : KVs) (cs : List Cell) (e : Cell) (δ : DS) : sameIo (.od a xs :: cs) (e :: δ) = ((∃ ys, e = .od a ys) ∧ sameIo cs δ) := rfl
omit [Tb] in
@[simp] theorem outC_od (a : Addr) (xs : KVs) (cs : List Cell) (e : Cell) (δ : DS) : outC (.od a xs :: cs) (e :: δ) = e :: outC cs δ := rfl
end DL
set_option Elab.async false
set_option linter.all false
set_option maxRecDepth 100000
set_option maxHeartbeats 4000000
namespace DL
open PySem PySem.Spec PyProof.Rows L2
variable [Tb]
def pLtT : P2 := fun x y R => match x, y with
  | .int i, .int j => R (.bool (decide (i < j)))
  | .tuple xs, .tuple ys => (noOL xs = true ∧ noOL ys = true) ∧ W.alike (.tuple xs) (.tuple ys) = true ∧ (PyData.tuple xs).depth ≤ 50 ∧ R (.bool (W.dataLt (.tuple xs) (.tuple ys)))
  | _, _ => False
section
variable {X : Cx}
theorem d_ltT (hu : X.A.units + 64 < cLine) : OpD X (compareOp .Lt) pLtT := by
  intro pins s σ H x y v u Q I rx ry ⟨B, G, δ, σ', dx, dy, R, rel, bx, by', q, k⟩
  cases dx <;> cases dy <;> first | exact False.elim q | skip
  · exact op_lt pins s σ H x y v u Q I rx ry ⟨_, _, bor_int bx, bor_int by', k _ H G _ q (Same.refl _) rel (Dn.bl _)⟩
  · rename_i xs ys
    obtain ⟨⟨c1, c2⟩, q1, q2, q3⟩ := q
    have b1 : Dn X.K H x (.tuple xs) := by
      obtain ⟨a, vs, rfl, ha, ta⟩ := bor_tupS bx
      exact .tup (rel.sg _ _ ha) (ta.mono rel.sg)
    have b2 : Dn X.K H y (.tuple ys) := by
      obtain ⟨a, vs, rfl, ha, ta⟩ := bor_tupS by'
      exact .tup (rel.sg _ _ ha) (ta.mono rel.sg)
    obtain ⟨as, r1⟩ := (Dn.rdN I _ (by rw [noO]; exact c1) b1 rx).reads
    obtain ⟨bs, r2⟩ := (Dn.rdN I _ (by rw [noO]; exact c2) b2 ry).reads
    have := W.rcLt_alike _ _ X.A s v u as bs r1 r2 q1 (fun e => by cases e) (by have := Nat.min_le_left (PyData.tuple xs).depth (PyData.tuple ys).depth; omega)
    exact this X.prog X.w _ _ ⟨.bl _, H, I, rfl, k _ H G _ q3 (Same.refl _) rel (Dn.bl _)⟩
end
omit [Tb] in
@[simp ↓] theorem pLtT_ii (i j : Int) (R : PyData → Prop) : pLtT (.int i) (.int j) R = R (.bool (decide (i < j))) := rfl
omit [Tb] in
@[simp ↓] theorem pLtT_tt (xs ys : List PyData) (R : PyData → Prop) : pLtT (.tuple xs) (.tuple ys) R = ((noOL xs = true ∧ noOL ys = true) ∧ W.alike (.tuple xs) (.tuple ys) = true ∧ (PyData.tuple xs).depth ≤ 50 ∧ R (.bool (W.dataLt (.tuple xs) (.tuple ys)))) := rfl
end DL
set_option Elab.async false
set_option linter.all false
set_option maxRecDepth 100000
set_option maxHeartbeats 4000000
namespace DL
open PySem PySem.Spec PyProof.Rows L2
variable [Tb]
section
variable {X : Cx} {e f : Expr} {pos pos' px : Pos} {x : Str} {i : Nat}
end
end DL
set_option Elab.async false
set_option linter.all false
set_option maxRecDepth 100000
set_option maxHeartbeats 4000000
namespace DL
open PySem PySem.Spec PyProof.Rows L2
variable [Tb]
section
variable {P : Program} {w : World} {K : PySem.W.Frag} {mg : Str → Option Value} {base : Heap}
end
end DL
set_option Elab.async false
set_option linter.all false
set_option maxRecDepth 100000
set_option maxHeartbeats 4000000
namespace DL
open PySem PySem.Spec PyProof.Rows L2
variable [Tb]
def wAugS (i : Nat) (wi : DE) (c : Int) : DTS := fun E δ => isOl δ i ∧ wi δ fun oj δ1 => use oj δ1 fun j => asI j (fun jn => olC δ1[i]? (fun a xs => 0 ≤ jn ∧ onS xs[jn.toNat]? (fun x => asI x (fun m => E.nx (δ1.set i (.ol a (xs.set jn.toNat (.int (m + c)))))) .mk) .mk) .mk) .mk
omit [Tb] in
@[simp ↓] theorem wAugS_ap (i : Nat) (wi : DE) (c : Int) (E : DEnds) (δ : DS) : wAugS i wi c E δ = (isOl δ i ∧ wi δ fun oj δ1 => use oj δ1 fun j => asI j (fun jn => olC δ1[i]? (fun a xs => 0 ≤ jn ∧ onS xs[jn.toNat]? (fun x => asI x (fun m => E.nx (δ1.set i (.ol a (xs.set jn.toNat (.int (m + c)))))) .mk) .mk) .mk) .mk) := rfl
section
variable {X : Cx} {e : Expr} {pos px p1 p2 : Pos} {x : Str} {i : Nat}
end
end DL
set_option Elab.async false
set_option linter.all false
set_option maxRecDepth 100000
set_option maxHeartbeats 4000000
namespace DL
open PySem PySem.Spec PyProof.Rows L2
variable [Tb]
def pLeT : P2 := fun x y R => match x, y with
  | .int i, .int j => R (.bool (decide (i ≤ j)))
  | .tuple xs, .tuple ys => (noOL xs = true ∧ noOL ys = true) ∧ W.alike (.tuple xs) (.tuple ys) = true ∧ (PyData.tuple xs).depth ≤ 50 ∧ R (.bool (!W.dataLt (.tuple ys) (.tuple xs)))
  | _, _ => False
section
variable {X : Cx}
end
omit [Tb] in
@[simp ↓] theorem pLeT_ii (i j : Int) (R : PyData → Prop) : pLeT (.int i) (.int j) R = R (.bool (decide (i ≤ j))) := rfl
omit [Tb] in
@[simp ↓] theorem pLeT_tt (xs ys : List PyData) (R : PyData → Prop) : pLeT (.tuple xs) (.tuple ys) R = ((noOL xs = true ∧ noOL ys = true) ∧ W.alike (.tuple xs) (.tuple ys) = true ∧ (PyData.tuple xs).depth ≤ 50 ∧ R (.bool (!W.dataLt (.tuple ys) (.tuple xs)))) := rfl
end DL
set_option Elab.async false
set_option linter.all false
set_option maxRecDepth 100000
set_option maxHeartbeats 4000000
namespace DL
open PySem PySem.Spec PyProof.Rows L2
variable [Tb]
def wIfL (t : DT) (la lb : DL) : DL := fun δ R => t δ fun k δ1 => if k = true then la δ1 R else lb δ1 R
omit [Tb] in
@[simp ↓] theorem wIfL_ap (t : DT) (la lb : DL) (δ : DS) (R : List PyData → DS → Prop) : wIfL t la lb δ R = (t δ fun k δ1 => if k = true then la δ1 R else lb δ1 R) := rfl
end DL
set_option Elab.async false
set_option linter.all false
set_option maxRecDepth 100000
set_option maxHeartbeats 4000000
namespace DL
open PySem PySem.Spec PyProof.Rows L2
variable [Tb]
open PySem.SeqAt
open AutoSeq1 (wpAny_loadPart')
open MeetsSeq
def IsD (h : Heap) (a : Addr) : Prop := ∃ o es n, h.get? a = some o ∧ o.cls = .type "dict" ∧ o.data = .dict es n
section
variable {A : Around} {s : Shared} {l b : Addr} {es : Array DictEntry} {its : Array Value} {n m : Nat} {dd de : Option Addr} {sl sm : Array (Option Value)}
abbrev DictAt (h : Heap) (l : Addr) (es : Array DictEntry) (n : Nat) (dd : Option Addr) (sl : Array (Option Value)) : Prop := h.get? l = some { cls := .type "dict", dict := dd, data := .dict es n, slots := sl }
abbrev RowAt (T : String) (h : Heap) (b : Addr) (its : Array Value) (m : Nat) (de : Option Addr) (sm : Array (Option Value)) : Prop := h.get? b = some { cls := .type T, dict := de, data := .seq its m, slots := sm }
theorem away_none : Meets (Builtin.«dict.__eq__» ⟨[.ref l, .none], []⟩) (fun _ R z => DictAt z.heap l es n dd sl ∧ R (.ok (.ret .notImplemented)) z) := by
  refine .of_wp fun prog w A R ⟨hp, gs, dr, tk, os⟩ h => ?_
  have away := F.sub_NoneType_dict
  obtain ⟨at_l, h⟩ := h
  wp_walk using wpAny_loadPart' at_l
  exact ⟨_, rfl, h⟩
theorem away_bool (x : Bool) : Meets (Builtin.«dict.__eq__» ⟨[.ref l, .bool x], []⟩) (fun _ R z => DictAt z.heap l es n dd sl ∧ R (.ok (.ret .notImplemented)) z) := by
  refine .of_wp fun prog w A R ⟨hp, gs, dr, tk, os⟩ h => ?_
  have away := F.sub_bool_dict
  obtain ⟨at_l, h⟩ := h
  wp_walk using wpAny_loadPart' at_l
  exact ⟨_, rfl, h⟩
theorem away_int (x : Int) (u : Tok) : Meets (Builtin.«dict.__eq__» ⟨[.ref l, .int x u], []⟩) (fun _ R z => DictAt z.heap l es n dd sl ∧ R (.ok (.ret .notImplemented)) z) := by
  refine .of_wp fun prog w A R ⟨hp, gs, dr, tk, os⟩ h => ?_
  have away := F.sub_int_dict
  obtain ⟨at_l, h⟩ := h
  wp_walk using wpAny_loadPart' at_l
  exact ⟨_, rfl, h⟩
theorem away_str (x : Str) (u : Tok) : Meets (Builtin.«dict.__eq__» ⟨[.ref l, .str x u], []⟩) (fun _ R z => DictAt z.heap l es n dd sl ∧ R (.ok (.ret .notImplemented)) z) := by
  refine .of_wp fun prog w A R ⟨hp, gs, dr, tk, os⟩ h => ?_
  have away := F.sub_str_dict
  obtain ⟨at_l, h⟩ := h
  wp_walk using wpAny_loadPart' at_l
  exact ⟨_, rfl, h⟩
theorem bool_away (x : Bool) : Meets (Builtin.«int.__eq__» ⟨[.bool x, .ref l], []⟩) (fun _ R z => DictAt z.heap l es n dd sl ∧ R (.ok (.ret .notImplemented)) z) := by
  refine .of_wp fun prog w A R ⟨hp, gs, dr, tk, os⟩ h => ?_
  obtain ⟨at_l, h⟩ := h
  wp_walk using wpAny_loadPart' at_l, wpAny_load at_l
  exact ⟨_, rfl, h⟩
theorem int_away (x : Int) (u : Tok) : Meets (Builtin.«int.__eq__» ⟨[.int x u, .ref l], []⟩) (fun _ R z => DictAt z.heap l es n dd sl ∧ R (.ok (.ret .notImplemented)) z) := by
  refine .of_wp fun prog w A R ⟨hp, gs, dr, tk, os⟩ h => ?_
  obtain ⟨at_l, h⟩ := h
  wp_walk using wpAny_loadPart' at_l, wpAny_load at_l
  exact ⟨_, rfl, h⟩
theorem str_away (x : Str) (u : Tok) : Meets (Builtin.«str.__eq__» ⟨[.str x u, .ref l], []⟩) (fun _ R z => DictAt z.heap l es n dd sl ∧ R (.ok (.ret .notImplemented)) z) := by
  refine .of_wp fun prog w A R ⟨hp, gs, dr, tk, os⟩ h => ?_
  obtain ⟨at_l, h⟩ := h
  wp_walk using wpAny_loadPart' at_l, wpAny_load at_l
  exact ⟨_, rfl, h⟩
theorem away_list : Meets (Builtin.«dict.__eq__» ⟨[.ref l, .ref b], []⟩) (fun _ R z => DictAt z.heap l es n dd sl ∧ RowAt "list" z.heap b its m de sm ∧ R (.ok (.ret .notImplemented)) z) := by
  refine .of_wp fun prog w A R ⟨hp, gs, dr, tk, os⟩ h => ?_
  have away := F.sub_list_dict
  obtain ⟨at_l, at_b, h⟩ := h
  wp_walk using wpAny_loadPart' at_l, wpAny_loadPart' at_b
  exact ⟨_, rfl, h⟩
theorem list_away : Meets (Builtin.«list.__eq__» ⟨[.ref b, .ref l], []⟩) (fun _ R z => DictAt z.heap l es n dd sl ∧ RowAt "list" z.heap b its m de sm ∧ R (.ok (.ret .notImplemented)) z) := by
  refine .of_wp fun prog w A R ⟨hp, gs, dr, tk, os⟩ h => ?_
  have away := F.sub_dict_list
  obtain ⟨at_l, at_b, h⟩ := h
  wp_walk using wpAny_loadPart' at_b, wpAny_loadPart' at_l
  exact ⟨_, rfl, h⟩
theorem away_tuple : Meets (Builtin.«dict.__eq__» ⟨[.ref l, .ref b], []⟩) (fun _ R z => DictAt z.heap l es n dd sl ∧ RowAt "tuple" z.heap b its m de sm ∧ R (.ok (.ret .notImplemented)) z) := by
  refine .of_wp fun prog w A R ⟨hp, gs, dr, tk, os⟩ h => ?_
  have away := F.sub_tuple_dict
  obtain ⟨at_l, at_b, h⟩ := h
  wp_walk using wpAny_loadPart' at_l, wpAny_loadPart' at_b
  exact ⟨_, rfl, h⟩
theorem tuple_away : Meets (Builtin.«tuple.__eq__» ⟨[.ref b, .ref l], []⟩) (fun _ R z => DictAt z.heap l es n dd sl ∧ RowAt "tuple" z.heap b its m de sm ∧ R (.ok (.ret .notImplemented)) z) := by
  refine .of_wp fun prog w A R ⟨hp, gs, dr, tk, os⟩ h => ?_
  have away := F.sub_dict_tuple
  obtain ⟨at_l, at_b, h⟩ := h
  wp_walk using wpAny_loadPart' at_b, wpAny_loadPart' at_l
  exact ⟨_, rfl, h⟩
/-- a thing against a dict, where both classes wave the other away -/
theorem differs {v : Value} {T id : String} (at_l : DictAt s.heap l es n dd sl) (ty : s.TypeIs v T) (ne : (Value.type T != Value.type "dict") = true) (sub : isSubtype (.type "dict") (.type T) = pure false) (slot : Slot T (cmpInfo .Eq).2.1 id) (room : A.units < cLine)
    (mine : ∀ (prog : Program) (w : World) (E Q : Value → Shared → Prop), Q .notImplemented s → wpAny (model prog w) A (call (.builtin id) [v, .ref l]) Q E s)
    (dicts : ∀ (prog : Program) (w : World) (E Q : Value → Shared → Prop), Q .notImplemented s → wpAny (model prog w) A (call (.builtin "dict.__eq__") [.ref l, v]) Q E s)
    (same : ∀ (prog : Program) (w : World) (E : Value → Shared → Prop) (Q : Bool → Shared → Prop), Q false s → wpAny (model prog w) A (isSame v (.ref l)) Q E s) : RcAt A s v (.ref l) false :=
  fun prog w E Q h => by
    exact rc_eq_decline_or (k := false) ty ⟨_, at_l, rfl⟩ ne sub slot F.slot_dict_eq_refl (mine prog w E) (dicts prog w E) (same prog w E) (.inr room) h
/-- what is no reference is not the dict itself -/
theorem differs_flat {v : Value} (flat : v = .none ∨ (∃ x, v = .bool x) ∨ (∃ x u, v = .int x u) ∨ ∃ x u, v = .str x u) (rc : RcAt A s v (.ref l) false) : EqAt A s v (.ref l) false := fun prog w E Q h => by
  have go : wpAny (model prog w) A (richCompare .Eq v (.ref l)) (fun r z => wpAny (model prog w) A (truthOfDropped r) Q E z) E s := rc prog w E _ (wpAny_truthy_bool h)
  delta eqBool
  rcases flat with rfl | ⟨_, rfl⟩ | ⟨_, _, rfl⟩ | ⟨_, _, rfl⟩ <;> exact wpAny_holding (wpAny_ite_split (fun e => absurd (eq_of_beq e) nofun) fun _ => wpAny_bind go)
theorem IsD.at {h : Heap} (d : IsD h l) : ∃ dd es n sl, DictAt h l es n dd sl := by
  obtain ⟨⟨_, dd, _, sl⟩, es, n, at_l, rfl, rfl⟩ := d
  exact ⟨dd, es, n, sl, at_l⟩
theorem dict_says {v : Value} {x : Shared} (at_l : DictAt s.heap l es n dd sl) {prog : Program} {w : World} {E Q : Value → Shared → Prop} {S : PySem.Spec} (own : Meets (Builtin.«dict.__eq__» ⟨[.ref l, v], []⟩) S) (h : S A (wants Q E) s) :
    wpAny (model prog w) A (call (.builtin "dict.__eq__") [.ref l, v]) Q E s :=
  call_meets F.slot_dict_eq_refl ⟨_, at_l, rfl⟩ F.entry_dict_eq (F.args_dict_eq_2 _ _) own h
theorem eq_NoneType_dict (d : IsD s.heap l) (room : A.units < cLine) : EqAt A s .none (.ref l) false := by
  obtain ⟨dd, es, n, sl, at_l⟩ := d.at
  exact differs_flat (.inl rfl) (differs at_l (T := "NoneType") rfl (by decide) F.sub_dict_NoneType F.slot_NoneType_eq room (fun _ _ _ _ q => call_gives F.slot_NoneType_eq rfl F.entry_NoneType_eq (F.args_NoneType_eq_2 _ _) (NoneType___eq___none_ref_0 l) q)
    (fun _ _ _ _ q => dict_says (x := s) at_l away_none ⟨at_l, q⟩) fun _ _ _ _ q => wpAny_of_eq (rfl : isSame .none (.ref l) = pure false) q)
theorem eq_bool_dict (x : Bool) (d : IsD s.heap l) (room : A.units < cLine) : EqAt A s (.bool x) (.ref l) false := by
  obtain ⟨dd, es, n, sl, at_l⟩ := d.at
  exact differs_flat (.inr (.inl ⟨_, rfl⟩)) (differs at_l (T := "bool") rfl (by decide) F.sub_dict_bool F.slot_bool_eq room (fun _ _ _ _ q => call_meets F.slot_bool_eq rfl F.entry_int_eq (F.args_int_eq_2 _ _) (bool_away x) ⟨at_l, q⟩)
    (fun _ _ _ _ q => dict_says (x := s) at_l (away_bool x) ⟨at_l, q⟩) fun _ _ _ _ q => wpAny_of_eq (rfl : isSame (.bool x) (.ref l) = pure false) q)
theorem eq_int_dict (x : Int) (u : Tok) (d : IsD s.heap l) (room : A.units < cLine) : EqAt A s (.int x u) (.ref l) false := by
  obtain ⟨dd, es, n, sl, at_l⟩ := d.at
  exact differs_flat (.inr (.inr (.inl ⟨_, _, rfl⟩))) (differs at_l (typeIs_int s x u) (by decide) F.sub_dict_int F.slot_int_eq room (fun _ _ _ _ q => call_meets F.slot_int_eq (typeIs_int s x u) F.entry_int_eq (F.args_int_eq_2 _ _) (int_away x u) ⟨at_l, q⟩)
    (fun _ _ _ _ q => dict_says (x := s) at_l (away_int x u) ⟨at_l, q⟩) fun _ _ _ _ q => wpAny_of_eq (rfl : isSame (.int x u) (.ref l) = pure false) q)
theorem eq_str_dict (x : Str) (u : Tok) (d : IsD s.heap l) (room : A.units < cLine) : EqAt A s (.str x u) (.ref l) false := by
  obtain ⟨dd, es, n, sl, at_l⟩ := d.at
  exact differs_flat (.inr (.inr (.inr ⟨_, _, rfl⟩))) (differs at_l (typeIs_str s x u) (by decide) F.sub_dict_str F.slot_str_eq room (fun _ _ _ _ q => call_meets F.slot_str_eq (typeIs_str s x u) F.entry_str_eq (F.args_str_eq_2 _ _) (str_away x u) ⟨at_l, q⟩)
    (fun _ _ _ _ q => dict_says (x := s) at_l (away_str x u) ⟨at_l, q⟩) fun _ _ _ _ q => wpAny_of_eq (rfl : isSame (.str x u) (.ref l) = pure false) q)
/-- a row and a dict don't lie in one place -/
theorem elsewhere {T : String} (t : T ≠ "dict") (at_b : RowAt T s.heap b its m de sm) (at_l : DictAt s.heap l es n dd sl) : b ≠ l := by
  rintro rfl
  have e := at_b.symm.trans at_l
  simp only [Option.some.injEq, Obj.mk.injEq, Value.type.injEq] at e
  exact t e.1
theorem eq_list_dict (p : s.heap.IsList b its) (d : IsD s.heap l) (room : A.units < cLine) : EqAt A s (.ref b) (.ref l) false := by
  obtain ⟨dd, es, n, sl, at_l⟩ := d.at
  obtain ⟨⟨_, de, _, sm⟩, at_b, rfl, m, rfl⟩ := p
  have apart := elsewhere (T := "list") (by decide) at_b at_l
  exact .of_refs apart (differs at_l ⟨_, at_b, rfl⟩ (by decide) F.sub_dict_list F.slot_list_eq room (fun _ _ _ _ q => call_meets F.slot_list_eq ⟨_, at_b, rfl⟩ F.entry_list_eq (F.args_list_eq_2 _ _) list_away ⟨at_l, at_b, q⟩)
    (fun _ _ _ _ q => dict_says (x := s) at_l away_list ⟨at_l, at_b, q⟩) fun _ _ _ _ q => wpAny_isSame_ref_other' apart at_b at_l (by simp) q)
theorem eq_tuple_dict (p : s.heap.IsTuple b its) (d : IsD s.heap l) (room : A.units < cLine) : EqAt A s (.ref b) (.ref l) false := by
  obtain ⟨dd, es, n, sl, at_l⟩ := d.at
  obtain ⟨⟨_, de, _, sm⟩, at_b, rfl, m, rfl⟩ := p
  have apart := elsewhere (T := "tuple") (by decide) at_b at_l
  exact .of_refs apart (differs at_l ⟨_, at_b, rfl⟩ (by decide) F.sub_dict_tuple F.slot_tuple_eq room (fun _ _ _ _ q => call_meets F.slot_tuple_eq ⟨_, at_b, rfl⟩ F.entry_tuple_eq (F.args_tuple_eq_2 _ _) tuple_away ⟨at_l, at_b, q⟩)
    (fun _ _ _ _ q => dict_says (x := s) at_l away_tuple ⟨at_l, at_b, q⟩) fun _ _ _ _ q => wpAny_isSame_ref_other' apart at_b at_l (by simp) q)
end
end DL
set_option Elab.async false
set_option linter.all false
set_option maxRecDepth 100000
set_option maxHeartbeats 4000000
namespace DL
open PySem PySem.Spec PyProof.Rows L2
variable [Tb]
open PySem.SeqAt
theorem reads_list {h : Heap} {v : Value} {xs : List PyData} {as : List Addr} (r : Reads h v (.list xs) as) : ∃ a vs bs, v = .ref a ∧ h.IsList a vs ∧ vs.size = xs.length ∧ ReadsAll h vs.toList xs bs := by
  cases r with
  | list at_a cl dt rs => exact ⟨_, _, _, rfl, ⟨_, at_a, cl, _, dt⟩, (Array.length_toList).symm.trans (ReadsAll.length _ _ _ rs), rs⟩
theorem reads_tuple {h : Heap} {v : Value} {xs : List PyData} {as : List Addr} (r : Reads h v (.tuple xs) as) : ∃ a vs bs, v = .ref a ∧ h.IsTuple a vs ∧ vs.size = xs.length ∧ ReadsAll h vs.toList xs bs := by
  cases r with
  | tuple at_a cl dt rs => exact ⟨_, _, _, rfl, ⟨_, at_a, cl, _, dt⟩, (Array.length_toList).symm.trans (ReadsAll.length _ _ _ rs), rs⟩
/-- two things of other kinds, or one of them flat; what the library tells already is left to it -/
theorem eqAt_kinds {A : Around} {s : Shared} {a b : Value} {as bs : List Addr} (da db : PyData) (ra : Reads s.heap a da as) (rb : Reads s.heap b db bs) (lay : da.canLay0 = true) (room : A.units < cLine) (new : ¬ db.canLay0 = true)
    (other : (∀ xs ys, ¬ (da = .list xs ∧ db = .list ys)) ∧ ∀ xs ys, ¬ (da = .tuple xs ∧ db = .tuple ys)) : EqAt A s a b (PyData.eqv da db) := by
  cases rb with
  | none => exact absurd rfl new
  | bool => exact absurd rfl new
  | int => exact absurd rfl new
  | str y u => cases ra with
    | none => exact .none_str y u
    | bool x => exact .bool_str x y u
    | int x t => exact .int_str x t y u
    | str x t => exact .str_str x t y u
    | list h1 h2 h3 => exact .list_str y u ⟨_, h1, h2, _, h3⟩ room
    | tuple h1 h2 h3 => exact .tuple_str y u ⟨_, h1, h2, _, h3⟩ room
    | dict => exact absurd lay Bool.false_ne_true
  | list k1 k2 k3 _ => cases ra with
    | none => exact EqAt.none_list ⟨_, k1, k2, _, k3⟩ room
    | bool x => exact EqAt.bool_list x ⟨_, k1, k2, _, k3⟩ room
    | int x t => exact EqAt.int_list x t ⟨_, k1, k2, _, k3⟩ room
    | str x t => exact EqAt.str_list x t ⟨_, k1, k2, _, k3⟩ room
    | tuple h1 h2 h3 => exact EqAt.tuple_list ⟨_, h1, h2, _, h3⟩ ⟨_, k1, k2, _, k3⟩ room
    | list => exact absurd ⟨rfl, rfl⟩ (other.1 _ _)
    | dict => exact absurd lay Bool.false_ne_true
  | tuple k1 k2 k3 _ => cases ra with
    | none => exact EqAt.none_tuple ⟨_, k1, k2, _, k3⟩ room
    | bool x => exact EqAt.bool_tuple x ⟨_, k1, k2, _, k3⟩ room
    | int x t => exact EqAt.int_tuple x t ⟨_, k1, k2, _, k3⟩ room
    | str x t => exact EqAt.str_tuple x t ⟨_, k1, k2, _, k3⟩ room
    | list h1 h2 h3 => exact EqAt.list_tuple ⟨_, h1, h2, _, h3⟩ ⟨_, k1, k2, _, k3⟩ room
    | tuple => exact absurd ⟨rfl, rfl⟩ (other.2 _ _)
    | dict => exact absurd lay Bool.false_ne_true
  | dict k1 k2 k3 => cases ra with
    | none => exact eq_NoneType_dict ⟨_, _, _, k1, k2, k3⟩ room
    | bool x => exact eq_bool_dict x ⟨_, _, _, k1, k2, k3⟩ room
    | int x t => exact eq_int_dict x t ⟨_, _, _, k1, k2, k3⟩ room
    | str x t => exact eq_str_dict x t ⟨_, _, _, k1, k2, k3⟩ room
    | list h1 h2 h3 => exact eq_list_dict ⟨_, h1, h2, _, h3⟩ ⟨_, _, _, k1, k2, k3⟩ room
    | tuple h1 h2 h3 => exact eq_tuple_dict ⟨_, h1, h2, _, h3⟩ ⟨_, _, _, k1, k2, k3⟩ room
    | dict => exact absurd lay Bool.false_ne_true
/-- the items of two rows, pair by pair -/
def Pairwise2 (A : Around) (s : Shared) (vs us : Array Value) (xs ys : List PyData) : Prop := ∀ j (h1 : j < vs.size) (h2 : j < us.size), EqAt A s vs[j] us[j] (pairEq xs ys j)
theorem eqAt_lists {A : Around} {s : Shared} {l l' : Addr} {vs us : Array Value} {xs ys : List PyData} (apart : l ≠ l') (p : s.heap.IsList l vs) (p' : s.heap.IsList l' us) (n : vs.size = xs.length) (n' : us.size = ys.length) (room : A.units < cLine)
    (each : Pairwise2 A.in1 s vs us xs ys) : EqAt A s (.ref l) (.ref l') (PyData.eqvAll xs ys) := by
  refine EqAt.of_refs apart ?_
  by_cases same : xs.length = ys.length
  · have go := RcAt.lists p p' (n.trans (same.trans n'.symm)) room each
    rwa [n, eqvAll_same_length same] at go
  · rw [eqvAll_other_length same]
    exact RcAt.lists_lengths p p' (by rw [n, n']; simpa using same) room
theorem eqAt_tuples {A : Around} {s : Shared} {l l' : Addr} {vs us : Array Value} {xs ys : List PyData} (apart : l ≠ l') (p : s.heap.IsTuple l vs) (p' : s.heap.IsTuple l' us) (n : vs.size = xs.length) (n' : us.size = ys.length) (room : A.units < cLine)
    (each : Pairwise2 A.in1 s vs us xs ys) : EqAt A s (.ref l) (.ref l') (PyData.eqvAll xs ys) := by
  have go := RcAt.tuples p p' room each
  rw [n, n', eqvAll_eq] at go
  exact EqAt.of_refs apart go
/-- .. and where the library tells all, it tells this -/
theorem eqAt_rest {A : Around} {s : Shared} {a b : Value} {as bs : List Addr} {da db : PyData} (ra : Reads s.heap a da as) (rb : Reads s.heap b db bs) (lay : da.canLay0 = true) (room : A.units + da.depth < cLine)
    (other : (∀ xs ys, ¬ (da = .list xs ∧ db = .list ys)) ∧ ∀ xs ys, ¬ (da = .tuple xs ∧ db = .tuple ys)) : EqAt A s a b (PyData.eqv da db) := by
  by_cases told : db.canLay0 = true
  · exact eqAt_reads da db A s a b as bs ra rb lay told (by omega)
  · exact eqAt_kinds da db ra rb lay (by omega) told other
mutual
theorem eqAt_any : ∀ (da db : PyData) {A : Around} {s : Shared} {a b : Value} {as bs : List Addr}, Reads s.heap a da as → Reads s.heap b db bs → da.canLay0 = true → A.units + da.depth < cLine → EqAt A s a b (PyData.eqv da db)
  | .list xs, db, A, s, a, b, as, bs, ra, rb, lay, room => by
    rcases Classical.em (∃ ys, db = .list ys) with ⟨ys, rfl⟩ | no
    · obtain ⟨l, vs, _, rfl, p, n, rs⟩ := reads_list ra
      obtain ⟨l', us, _, rfl, p', n', rs'⟩ := reads_list rb
      by_cases e : l = l'
      · subst e
        cases Reads.unique (.list xs) (.list ys) _ _ _ lay ra rb
        rw [show PyData.eqv (.list xs) (.list xs) = true from eqvAll_refl xs lay]
        exact EqAt.same _
      · rw [PyData.depth] at room
        exact eqAt_lists e p p' n n' (by omega) fun j h1 h2 => eqAt_anys xs ys rs rs' lay (show A.units + 1 + _ < _ by omega) j h1 h2
    · exact eqAt_rest ra rb lay room ⟨fun _ ys z => no ⟨ys, z.2⟩, fun _ _ z => nomatch z.1⟩
  | .tuple xs, db, A, s, a, b, as, bs, ra, rb, lay, room => by
    rcases Classical.em (∃ ys, db = .tuple ys) with ⟨ys, rfl⟩ | no
    · obtain ⟨l, vs, _, rfl, p, n, rs⟩ := reads_tuple ra
      obtain ⟨l', us, _, rfl, p', n', rs'⟩ := reads_tuple rb
      by_cases e : l = l'
      · subst e
        cases Reads.unique (.tuple xs) (.tuple ys) _ _ _ lay ra rb
        rw [show PyData.eqv (.tuple xs) (.tuple xs) = true from eqvAll_refl xs lay]
        exact EqAt.same _
      · rw [PyData.depth] at room
        exact eqAt_tuples e p p' n n' (by omega) fun j h1 h2 => eqAt_anys xs ys rs rs' lay (show A.units + 1 + _ < _ by omega) j h1 h2
    · exact eqAt_rest ra rb lay room ⟨(fun _ _ z => nomatch z.1), fun _ ys z => no ⟨ys, z.2⟩⟩
  | .none, _, _, _, _, _, _, _, ra, rb, lay, room => eqAt_rest ra rb lay room ⟨(fun _ _ z => nomatch z.1), (fun _ _ z => nomatch z.1)⟩
  | .bool _, _, _, _, _, _, _, _, ra, rb, lay, room => eqAt_rest ra rb lay room ⟨(fun _ _ z => nomatch z.1), (fun _ _ z => nomatch z.1)⟩
  | .int _, _, _, _, _, _, _, _, ra, rb, lay, room => eqAt_rest ra rb lay room ⟨(fun _ _ z => nomatch z.1), (fun _ _ z => nomatch z.1)⟩
  | .str _, _, _, _, _, _, _, _, ra, rb, lay, room => eqAt_rest ra rb lay room ⟨(fun _ _ z => nomatch z.1), (fun _ _ z => nomatch z.1)⟩
  | .dict _, _, _, _, _, _, _, _, _, _, lay, _ => nomatch lay
theorem eqAt_anys : ∀ (xs ys : List PyData) {A : Around} {s : Shared} {vs us : List Value} {as bs : List Addr}, ReadsAll s.heap vs xs as → ReadsAll s.heap us ys bs → PyData.canLayAll0 xs = true → A.units + PyData.depthAll xs < cLine →
    ∀ j (h1 : j < vs.length) (h2 : j < us.length), EqAt A s vs[j] us[j] (pairEq xs ys j)
  | [], _, _, _, _, _, _, _, .nil, _, _, _, _, h1, _ => nomatch h1
  | _ :: _, [], _, _, _, _, _, _, _, .nil, _, _, _, _, h2 => nomatch h2
  | x :: xs, y :: ys, _, _, _, _, _, _, .cons r rs, .cons r' rs', lay, room, j, h1, h2 => by
    rw [PyData.canLayAll0, Bool.and_eq_true] at lay
    rw [PyData.depthAll] at room
    cases j with
    | zero => exact eqAt_any x y r r' lay.1 (by omega)
    | succ j => exact eqAt_anys xs ys rs rs' lay.2 (by omega) j (Nat.lt_of_succ_lt_succ h1) (Nat.lt_of_succ_lt_succ h2)
end
theorem items_any {A : Around} {s : Shared} {vs : Array Value} {xs : List PyData} {as bs : List Addr} {x : Value} {d : PyData} (rs : ReadsAll s.heap vs.toList xs as) (rx : Reads s.heap x d bs) (lay : PyData.canLayAll0 xs = true) (room : A.units + 1 + PyData.depthAll xs < cLine) :
    ∀ y ∈ vs, EqAt A.in1 s y x (PyData.eqv (readOf s.heap y) d) := by
  intro y m
  obtain ⟨d', _, ry, lay', deep⟩ := readsAll_mem xs _ _ lay rs y (Array.mem_toList_iff.mpr m)
  have in1 : A.in1.units = A.units + 1 := rfl
  rw [readOf_eq lay' ry]
  exact eqAt_any d' d ry rx lay' (by omega)
/-- x in y, whatever x is -/
def pInX : P2 := fun x y R => match y with
  | .list ds => noO x = true ∧ SeqAt.shaped (.list ds) = true ∧ R (.bool (ds.any fun z => PyData.eqv z x))
  | .tuple ds => noO x = true ∧ SeqAt.shaped (.tuple ds) = true ∧ R (.bool (ds.any fun z => PyData.eqv z x))
  | _ => False
/-- x == () of a tuple, x == [] of a list, whatever lies within -/
def pEqE : P2 := fun x y R => match x, y with
  | .tuple xs, .tuple [] => noOL xs = true ∧ R (.bool xs.isEmpty)
  | .list xs, .list [] => noOL xs = true ∧ R (.bool xs.isEmpty)
  | _, _ => False
def pNeE : P2 := fun x y R => match x, y with
  | .tuple xs, .tuple [] => noOL xs = true ∧ R (.bool (!xs.isEmpty))
  | .list xs, .list [] => noOL xs = true ∧ R (.bool (!xs.isEmpty))
  | _, _ => False
omit [Tb] in
@[simp ↓] theorem pEqE_t (xs : List PyData) (R : PyData → Prop) : pEqE (.tuple xs) (.tuple []) R = (noOL xs = true ∧ R (.bool xs.isEmpty)) := rfl
omit [Tb] in
@[simp ↓] theorem pEqE_l (xs : List PyData) (R : PyData → Prop) : pEqE (.list xs) (.list []) R = (noOL xs = true ∧ R (.bool xs.isEmpty)) := rfl
omit [Tb] in
@[simp ↓] theorem pNeE_t (xs : List PyData) (R : PyData → Prop) : pNeE (.tuple xs) (.tuple []) R = (noOL xs = true ∧ R (.bool (!xs.isEmpty))) := rfl
omit [Tb] in
@[simp ↓] theorem pNeE_l (xs : List PyData) (R : PyData → Prop) : pNeE (.list xs) (.list []) R = (noOL xs = true ∧ R (.bool (!xs.isEmpty))) := rfl
omit [Tb] in
@[simp ↓] theorem pInX_l (x : PyData) (ds : List PyData) (R : PyData → Prop) : pInX x (.list ds) R = (noO x = true ∧ SeqAt.shaped (.list ds) = true ∧ R (.bool (ds.any fun z => PyData.eqv z x))) := rfl
omit [Tb] in
@[simp ↓] theorem pInX_t (x : PyData) (ds : List PyData) (R : PyData → Prop) : pInX x (.tuple ds) R = (noO x = true ∧ SeqAt.shaped (.tuple ds) = true ∧ R (.bool (ds.any fun z => PyData.eqv z x))) := rfl
section
variable {X : Cx}
theorem depth_shaped {xs : List PyData} (h : SeqAt.shaped (.tuple xs) = true) : PyData.depthAll xs ≤ 63 := by
  have le := (Bool.and_eq_true _ _ ▸ h : _ ∧ _).2
  have le := of_decide_eq_true le
  rw [PyData.depth] at le
  omega
theorem depth_shapedL {xs : List PyData} (h : SeqAt.shaped (.list xs) = true) : PyData.depthAll xs ≤ 63 := by
  have le := (Bool.and_eq_true _ _ ▸ h : _ ∧ _).2
  have le := of_decide_eq_true le
  rw [PyData.depth] at le
  omega
theorem d_inX (hu : X.A.units + 65 < cLine) : OpD X (compareOp .In) pInX := by
  rintro pins s σ H x y v u Q I rx ry ⟨B, G, δ, σ', dx, dy, R, rel, bx, by', q, k⟩
  have fin : ∀ {b : Bool}, R (.bool b) → EP X pins σ Q (.bool b) s := fun {b} r => ⟨.bl b, H, I, rfl, k _ H G _ r (Same.refl _) rel (Dn.bl _)⟩
  cases dy with
  | list ds =>
    obtain ⟨c, q⟩ := q
    have lay : PyData.canLayAll0 ds = true := SeqAt.canLay_of_shaped q.1
    obtain ⟨_, r1⟩ := (Dn.rdN I dx c (bx.dn rel) rx).reads
    obtain ⟨_, r2⟩ := (Dn.rdN I _ (by rw [noO]; exact noOL_lay ds lay) (by'.dn rel) ry).reads
    have deep := depth_shapedL q.1
    obtain ⟨l, vs, _, rfl, p, _, rs⟩ := reads_list r2
    exact in_listAt _ p (items_any rs r1 lay (by omega)) (by rw [any_by_data rs lay]; exact fin q.2)
  | tuple ds =>
    obtain ⟨c, q⟩ := q
    have lay : PyData.canLayAll0 ds = true := SeqAt.canLay_of_shaped q.1
    obtain ⟨_, r1⟩ := (Dn.rdN I dx c (bx.dn rel) rx).reads
    obtain ⟨_, r2⟩ := (Dn.rdN I _ (by rw [noO]; exact noOL_lay ds lay) (by'.dn rel) ry).reads
    have deep := depth_shaped q.1
    obtain ⟨l, vs, _, rfl, p, _, rs⟩ := reads_tuple r2
    exact in_tupleAt _ p (items_any rs r1 lay (by omega)) (by rw [any_by_data rs lay]; exact fin q.2)
  | _ => exact False.elim q
end
end DL
set_option Elab.async false
set_option linter.all false
set_option maxRecDepth 100000
set_option maxHeartbeats 4000000
namespace TW
open PySem PySem.Spec PyProof.Rows L2 DL
/-- is a part of a box filled by one brick, or has it no cells -/
def partB (br bx : List Int) (ax : Nat) (s : Int) : Bool := decide (s = 0) || (restsF br (bx.set ax s)).isEmpty
def cutB (p q bx : List Int) (ax : Nat) (z : Int) : Bool := partB p bx ax z && partB q bx ax (gi bx ax - z)
def sp_is_part : DSp := fun cs R => ∃ (br bx : List Int) (ax : Nat) (s : Int), cs = [.d (tI br), .d (tI bx), .d (.int (ax : Int)), .d (.int s)] ∧ br.length = bx.length ∧ bx.length ≤ 1000 ∧ (∀ x ∈ br, 1 ≤ x) ∧ ax < bx.length ∧ R (.bool (partB br bx ax s)) cs
def sp_Lis_part : DSp := sp_is_part
/-- the first kind's brick, the other's -/
def fst2 (f : Nat) (a b : List Int) : List Int := if f = 0 then a else b
def sp_is_cut : DSp := fun cs R => ∃ (a b bx : List Int) (f ax : Nat) (z : Int), cs = [.d (prD a b), .d (tI bx), .d (.int (f : Int)), .d (.int (ax : Int)), .d (.int z)] ∧ PB a b bx ∧ f ≤ 1 ∧ ax < bx.length ∧ R (.bool (cutB (fst2 f a b) (fst2 f b a) bx ax z)) cs
def sp_Lis_cut : DSp := fun cs R => ∃ (a b bx : List Int) (f ax : Nat) (z : Int), cs = [.d (prD a b), .d (tI bx), .d (.tuple [.int (f : Int), .int (ax : Int), .int z])] ∧ PB a b bx ∧ f ≤ 1 ∧ ax < bx.length ∧ R (.bool (cutB (fst2 f a b) (fst2 f b a) bx ax z)) cs
def cutD3 (f ax : Nat) (z : Int) : PyData := .tuple [.str "cut", .int (f : Int), .int (ax : Int), .int z]
/-- what a paper is -/
def IsCut (a b bx : List Int) (f ax : Nat) (z : Int) : Prop := f ≤ 1 ∧ ax < bx.length ∧ 0 ≤ z ∧ z ≤ gi bx ax ∧ cutB (fst2 f a b) (fst2 f b a) bx ax z = true
def Paper (a b bx : List Int) (v : PyData) : Prop := v ∈ barsL a b bx ∨ ∃ f ax z, v = cutD3 f ax z ∧ IsCut a b bx f ax z
def sp_paper_holds : DSp := fun cs R => ∃ (a b bx : List Int) (v : PyData), cs = [.d (prD a b), .d (tI bx), .d v] ∧ PB a b bx ∧ noO v = true ∧ ∀ c : Bool, (c = true ↔ Paper a b bx v) → R (.bool c) cs
def w_is_part : DTS := (wRet (wOrV (wOp pEq (wVar 3) (wC (.int 0))) (wOp pEq (wCall [] sp_rests (wCons (wVar 0) (wCons (wCall [] sp_Lwith (wCons (wVar 1) (wCons (wVar 2) (wCons (wVar 3) wNil)))) wNil))) (wOfL (wLst wNil)))))
def w_is_cut : DTS := (wRet (wAndV (wCall [] sp_is_part (wCons (wOp pIx (wVar 0) (wVar 2)) (wCons (wVar 1) (wCons (wVar 3) (wCons (wVar 4) wNil))))) (wCall [] sp_is_part (wCons (wOp pIx (wVar 0) (wOp pSubB (wC (.int 1)) (wVar 2))) (wCons (wVar 1) (wCons (wVar 3) (wCons (wOp pSubB (wOp pIx (wVar 1) (wVar 3)) (wVar 4)) wNil)))))))
def w_paper_holds_t1 : DTS := (wRet (wAndV (wCall [] sp_is_integer (wCons (wOp pIx (wVar 2) (wC (.int 3))) (wCons (wC (.int 0)) (wCons (wOp pIx (wVar 1) (wOp pIx (wVar 2) (wC (.int 2)))) wNil)))) (wCall [] sp_is_cut (wCons (wVar 0) (wCons (wVar 1) (wCons (wOp pIx (wVar 2) (wC (.int 1))) (wCons (wOp pIx (wVar 2) (wC (.int 2))) (wCons (wOp pIx (wVar 2) (wC (.int 3))) wNil))))))))
def w_paper_holds_2 : DTS := (wRet (wAndV (wOp pInX (wVar 2) (wCall [] sp_bar_papers (wCons (wVar 0) (wCons (wVar 1) wNil)))) (wNotV (wFn pAny (wCons (wOfL (wComp (iSeq (wVar 2)) (gN 3) tT (wIsi "bool" (wVar 3)) [3])) wNil)))))
def w_paper_holds_t2 : DTS := (wSeq (wIf (wOr (wB (wOp pNe (wFn pLen (wCons (wVar 2) wNil)) (wC (.int 4)))) (wOr (wNot (wB (wCall [] sp_is_integer (wCons (wOp pIx (wVar 2) (wC (.int 1))) (wCons (wC (.int 0)) (wCons (wC (.int 1)) wNil)))))) (wNot (wB (wCall [] sp_is_integer (wCons (wOp pIx (wVar 2) (wC (.int 2))) (wCons (wC (.int 0)) (wCons (wOp pSubB (wFn pLen (wCons (wVar 1) wNil)) (wC (.int 1))) wNil)))))))) (wRet (wC (.bool false))) wNext) w_paper_holds_t1)
def w_paper_holds_t3 : DTS := (wSeq (wIf (wB (wOp pNe (wOp pIx (wVar 2) (wC (.int 0))) (wC (.str "cut")))) w_paper_holds_2 wNext) w_paper_holds_t2)
def w_paper_holds : DTS := (wSeq (wIf (wOr (wNot (wB (wIsi "tuple" (wVar 2)))) (wOr (wB (wOp pLt (wFn pLen (wCons (wVar 2) wNil)) (wC (.int 2)))) (wNot (wB (wIsi "str" (wOp pIx (wVar 2) (wC (.int 0)))))))) (wRet (wC (.bool false))) wNext) w_paper_holds_t3)
def w_Lis_part : DTS := (wRet (wOrV (wOp pEq (wVar 3) (wC (.int 0))) (wOp pEq (wCall [] sp_Lrests (wCons (wVar 0) (wCons (wCall [] sp_Lwith (wCons (wVar 1) (wCons (wVar 2) (wCons (wVar 3) wNil)))) wNil))) (wOfL (wLst wNil)))))
def w_Lis_cut_t1 : DTS := (wRet (wCall [] sp_Lis_part (wCons (wOp pIx (wVar 0) (wOp pSubB (wC (.int 1)) (wVar 3))) (wCons (wVar 1) (wCons (wVar 4) (wCons (wOp pSubB (wOp pIx (wVar 1) (wVar 4)) (wVar 5)) wNil))))))
def w_Lis_cut_s1 : DTS := (wSeq (wIf (wNot (wB (wCall [] sp_Lis_part (wCons (wOp pIx (wVar 0) (wVar 3)) (wCons (wVar 1) (wCons (wVar 4) (wCons (wVar 5) wNil))))))) (wRet (wC (.bool false))) wNext) w_Lis_cut_t1)
@[simp ↓] theorem w_Lis_cut_s1_ap (E : DEnds) (δ : DS) : w_Lis_cut_s1 E δ = (wSeq (wIf (wNot (wB (wCall [] sp_Lis_part (wCons (wOp pIx (wVar 0) (wVar 3)) (wCons (wVar 1) (wCons (wVar 4) (wCons (wVar 5) wNil))))))) (wRet (wC (.bool false))) wNext) w_Lis_cut_t1) E δ := rfl
def w_Lis_cut : DTS := (wSeq (wAsgG (wVar 2) (gT (gsCons (gN 3) (gsCons (gN 4) (gsCons (gN 5) gsNil))))) w_Lis_cut_s1)
theorem ln_is_part : ∀ cs R, sp_is_part cs R → cs.length = 4 := by
  intro cs R h
  unfold sp_is_part at h
  repeat (obtain ⟨_, h⟩ := h)
  subst_vars; rfl
theorem ln_is_cut : ∀ cs R, sp_is_cut cs R → cs.length = 5 := by
  intro cs R h
  unfold sp_is_cut at h
  repeat (obtain ⟨_, h⟩ := h)
  subst_vars; rfl
theorem ln_paper_holds : ∀ cs R, sp_paper_holds cs R → cs.length = 3 := by
  intro cs R h
  unfold sp_paper_holds at h
  repeat (obtain ⟨_, h⟩ := h)
  subst_vars; rfl
theorem ln_Lis_part : ∀ cs R, sp_Lis_part cs R → cs.length = 4 := by
  intro cs R h
  unfold sp_Lis_part at h
  repeat (obtain ⟨_, h⟩ := h)
  subst_vars; rfl
theorem ln_Lis_cut : ∀ cs R, sp_Lis_cut cs R → cs.length = 3 := by
  intro cs R h
  unfold sp_Lis_cut at h
  repeat (obtain ⟨_, h⟩ := h)
  subst_vars; rfl
end TW
set_option Elab.async false
set_option linter.all false
set_option maxRecDepth 100000
set_option maxHeartbeats 4000000
namespace TW
open PySem PySem.Spec PyProof.Rows L2 DL
theorem ask_with {bx : List Int} {ax : Nat} {s : Int} {K : PyData → List Cell → Prop} {u : Stop K} (hx : ax < bx.length) (l1 : bx.length ≤ 1000) (k : K (tI (bx.set ax s)) [.d (tI bx), .d (.int (ax : Int)), .d (.int s)]) : ask sp_Lwith [.d (tI bx), .d (.int (ax : Int)), .d (.int s)] K u :=
  ⟨lI bx, ax, .int s, rfl, by simpa using hx, by simp; omega, by
    have e : (lI bx).set ax (.int s) = lI (bx.set ax s) := by unfold lI; rw [List.map_set]
    rw [e]; exact k⟩
theorem rd_is_part : ∀ cs R, sp_is_part cs R → w_is_part (endsOf cs R) (start0 4 cs) := by
  rintro _ R ⟨br, bx, ax, s, rfl, hl, l1, hb, hx, hR⟩
  unfold partB at hR
  simp -implicitDefEqProofs -dsimp [w_is_part]
  by_cases z : s = 0
  · rw [if_pos z]
    simpa [z] using hR
  · rw [if_neg z]
    refine ask_with hx l1 ?_
    (try simp -implicitDefEqProofs -dsimp)
    refine ask_of (sp := sp_rests) ⟨br, bx.set ax s, rfl, by simp; omega, hb, ?_⟩
    simp -implicitDefEqProofs -dsimp [shaped_nats, eqv_nats, shaped_nil]
    simpa [z] using hR
theorem rd_Lis_part : ∀ cs R, sp_Lis_part cs R → w_Lis_part (endsOf cs R) (start0 4 cs) := by
  rintro _ R ⟨br, bx, ax, s, rfl, hl, l1, hb, hx, hR⟩
  unfold partB at hR
  simp -implicitDefEqProofs -dsimp [w_Lis_part]
  by_cases z : s = 0
  · rw [if_pos z]
    simpa [z] using hR
  · rw [if_neg z]
    refine ask_with hx l1 ?_
    (try simp -implicitDefEqProofs -dsimp)
    refine ask_of (sp := sp_Lrests) ⟨br, bx.set ax s, rfl, by simp; omega, by simp; omega, hb, ?_⟩
    simp -implicitDefEqProofs -dsimp [shaped_nats, eqv_nats, shaped_nil]
    simpa [z] using hR
theorem PB.swap {a b bx : List Int} (h : PB a b bx) : PB b a bx := ⟨h.lb, h.la, h.l0, h.l1, h.pb, h.pa, h.px⟩
theorem rd_is_cut : ∀ cs R, sp_is_cut cs R → w_is_cut (endsOf cs R) (start0 5 cs) := by
  rintro _ R ⟨a, b, bx, f, ax, z, rfl, h, hf, hx, hR⟩
  have l1 := h.l1
  have hf : f = 0 ∨ f = 1 := by omega
  unfold cutB at hR
  rcases hf with rfl | rfl
  · simp -implicitDefEqProofs -dsimp [w_is_cut]
    refine ask_of (sp := sp_is_part) ⟨a, bx, ax, z, rfl, h.la, by omega, fun x m => (h.pa x m).1, hx, ?_⟩
    have hR : R (.bool (partB a bx ax z && partB b bx ax (gi bx ax - z))) _ := hR
    (try simp -implicitDefEqProofs -dsimp)
    cases c : partB a bx ax z
    · rw [c] at hR
      (try simp -implicitDefEqProofs -dsimp)
      exact hR
    · rw [c] at hR
      simp -implicitDefEqProofs -dsimp [gi_at hx]
      refine ask_of (sp := sp_is_part) ⟨b, bx, ax, gi bx ax - z, rfl, h.lb, by omega, fun x m => (h.pb x m).1, hx, ?_⟩
      (try simp -implicitDefEqProofs -dsimp)
      exact hR
  · simp -implicitDefEqProofs -dsimp [w_is_cut]
    refine ask_of (sp := sp_is_part) ⟨b, bx, ax, z, rfl, h.lb, by omega, fun x m => (h.pb x m).1, hx, ?_⟩
    have hR : R (.bool (partB b bx ax z && partB a bx ax (gi bx ax - z))) _ := hR
    (try simp -implicitDefEqProofs -dsimp)
    cases c : partB b bx ax z
    · rw [c] at hR
      (try simp -implicitDefEqProofs -dsimp)
      exact hR
    · rw [c] at hR
      simp -implicitDefEqProofs -dsimp [gi_at hx]
      refine ask_of (sp := sp_is_part) ⟨a, bx, ax, gi bx ax - z, rfl, h.la, by omega, fun x m => (h.pa x m).1, hx, ?_⟩
      (try simp -implicitDefEqProofs -dsimp)
      exact hR
theorem rd_Lis_cut : ∀ cs R, sp_Lis_cut cs R → w_Lis_cut (endsOf cs R) (start0 6 cs) := by
  rintro _ R ⟨a, b, bx, f, ax, z, rfl, h, hf, hx, hR⟩
  have l1 := h.l1
  have hf : f = 0 ∨ f = 1 := by omega
  unfold cutB at hR
  rcases hf with rfl | rfl
  · simp -implicitDefEqProofs -dsimp [w_Lis_cut]
    refine ask_of (sp := sp_Lis_part) ⟨a, bx, ax, z, rfl, h.la, by omega, fun x m => (h.pa x m).1, hx, ?_⟩
    have hR : R (.bool (partB a bx ax z && partB b bx ax (gi bx ax - z))) _ := hR
    (try simp -implicitDefEqProofs -dsimp)
    cases c : partB a bx ax z
    · rw [c] at hR
      (try simp -implicitDefEqProofs -dsimp)
      exact hR
    · rw [c] at hR
      simp -implicitDefEqProofs -dsimp [w_Lis_cut_t1, gi_at hx]
      refine ask_of (sp := sp_Lis_part) ⟨b, bx, ax, gi bx ax - z, rfl, h.lb, by omega, fun x m => (h.pb x m).1, hx, ?_⟩
      (try simp -implicitDefEqProofs -dsimp)
      exact hR
  · simp -implicitDefEqProofs -dsimp [w_Lis_cut]
    refine ask_of (sp := sp_Lis_part) ⟨b, bx, ax, z, rfl, h.lb, by omega, fun x m => (h.pb x m).1, hx, ?_⟩
    have hR : R (.bool (partB b bx ax z && partB a bx ax (gi bx ax - z))) _ := hR
    (try simp -implicitDefEqProofs -dsimp)
    cases c : partB b bx ax z
    · rw [c] at hR
      (try simp -implicitDefEqProofs -dsimp)
      exact hR
    · rw [c] at hR
      simp -implicitDefEqProofs -dsimp [w_Lis_cut_t1, gi_at hx]
      refine ask_of (sp := sp_Lis_part) ⟨a, bx, ax, gi bx ax - z, rfl, h.la, by omega, fun x m => (h.pa x m).1, hx, ?_⟩
      (try simp -implicitDefEqProofs -dsimp)
      exact hR
theorem mem_cross {a b bx : List Int} {v : PyData} : v ∈ (crossF a b bx).map crD ↔ ∃ i j : Nat, v = crD (i, j) ∧ i ∈ restsF a bx ∧ j ∈ restsF b bx ∧ i ≠ j := by
  unfold crossF
  simp only [List.mem_map, List.mem_flatMap, List.mem_filter]
  constructor
  · rintro ⟨p, ⟨i, hi, j, ⟨hj, hij⟩, rfl⟩, rfl⟩
    exact ⟨i, j, rfl, hi, hj, by simpa using hij⟩
  · rintro ⟨i, j, rfl, hi, hj, hij⟩
    exact ⟨(i, j), ⟨i, hi, j, ⟨hj, by simpa using hij⟩, rfl⟩, rfl⟩
def stepD (ax : Nat) : PyData := .tuple [.str "step", .int (ax : Int)]
def gapD4 (ax : Nat) (t m : Int) : PyData := .tuple [.str "gap", .int (ax : Int), .int t, .int m]
theorem gap_iff {a b s t m : Int} (ha : 1 ≤ a) (hb : 1 ≤ b) : (timesF a b s = some t ∧ a * t - s > 0 ∧ m = (a * t - s) / b) ↔ (0 ≤ t ∧ t < b / gcdI a b ∧ 1 ≤ m ∧ a * t - b * m = s) := by
  constructor
  · rintro ⟨h, h1, rfl⟩
    obtain ⟨_, t0, t1, k, hk⟩ := times_some ha hb h
    have e : a * t - s = b * -k := by rw [Int.mul_neg]; omega
    have q : (a * t - s) / b = -k := by rw [e, Int.mul_ediv_cancel_left _ (by omega)]
    rw [q]
    refine ⟨t0, t1, ?_, by omega⟩
    by_cases c : 1 ≤ -k
    · exact c
    · have := Int.mul_le_mul_of_nonneg_left (show -k ≤ 0 by omega) (show 0 ≤ b by omega)
      omega
  · rintro ⟨t0, t1, m0, rfl⟩
    have bm := Int.mul_le_mul_of_nonneg_left m0 (show 0 ≤ b by omega)
    have d : b ∣ a * t - b * m - a * t := ⟨-m, by rw [Int.mul_neg]; omega⟩
    have hs : gcdI a b ∣ a * t - b * m := Int.dvd_sub (Int.dvd_mul_of_dvd_left (gcd_dvd_l ..)) (Int.dvd_mul_of_dvd_left (gcd_dvd_r ..))
    cases h : timesF a b (a * t - b * m) with
    | none => exact absurd hs (times_none.mp h)
    | some u =>
      obtain ⟨_, u0, u1, _⟩ := times_some ha hb h
      obtain ⟨l1, l2⟩ := times_least ha hb h t0 d
      have e : u = t := by
        by_cases c : t - u = 0
        · omega
        · have := Int.le_of_dvd (by omega) l2
          omega
      subst e
      refine ⟨rfl, by omega, ?_⟩
      rw [show a * u - (a * u - b * m) = b * m by omega, Int.mul_ediv_cancel_left _ (by omega)]
theorem mem_bar {a b bx : List Int} {ax : Nat} {v : PyData} (h : PB a b bx) (hx : ax < bx.length) : optD (barD a b bx ax) = some v ↔ (v = stepD ax ∧ ¬ gcdI (gi a ax) (gi b ax) ∣ gi bx ax) ∨ ∃ t m, v = gapD4 ax t m ∧ 0 ≤ t ∧ t < gi b ax / gcdI (gi a ax) (gi b ax) ∧ 1 ≤ m ∧ gi a ax * t - gi b ax * m = gi bx ax := by
  obtain ⟨_, _, _, qa, qb, _⟩ := h.at hx
  have gapq : ∀ t m, (0 ≤ t ∧ t < gi b ax / gcdI (gi a ax) (gi b ax) ∧ 1 ≤ m ∧ gi a ax * t - gi b ax * m = gi bx ax) ↔ _ := fun t m => (gap_iff (s := gi bx ax) qa.1 qb.1).symm
  simp only [gapq]
  rw [← times_none]
  unfold barD barF
  cases hT : timesF (gi a ax) (gi b ax) (gi bx ax) with
  | none => simp [optD, stepD, eq_comm]
  | some t =>
    by_cases c : gi a ax * t - gi bx ax > 0
    · simp only [c, if_true, optD]
      constructor
      · intro e; cases e; exact .inr ⟨t, _, rfl, rfl, c, rfl⟩
      · rintro (⟨_, q⟩ | ⟨t', m, rfl, q, _, rfl⟩)
        · cases q
        · cases q; rfl
    · simp only [c, if_false, optD]
      constructor
      · intro e; cases e
      · rintro (⟨_, q⟩ | ⟨t', m, rfl, q, c', rfl⟩)
        · cases q
        · cases q; exact absurd c' c
/-- all papers that bar -/
theorem mem_barsL {a b bx : List Int} {v : PyData} (h : PB a b bx) : v ∈ barsL a b bx ↔ (∃ i j : Nat, v = crD (i, j) ∧ i ∈ restsF a bx ∧ j ∈ restsF b bx ∧ i ≠ j) ∨ ∃ ax : Nat, ax < bx.length ∧ ((v = stepD ax ∧ ¬ gcdI (gi a ax) (gi b ax) ∣ gi bx ax) ∨ ∃ t m, v = gapD4 ax t m ∧ 0 ≤ t ∧ t < gi b ax / gcdI (gi a ax) (gi b ax) ∧ 1 ≤ m ∧ gi a ax * t - gi b ax * m = gi bx ax) := by
  unfold barsL
  rw [List.mem_append, mem_cross, List.mem_filterMap]
  constructor
  · rintro (q | ⟨ax, hx, e⟩)
    · exact .inl q
    · exact .inr ⟨ax, List.mem_range.mp hx, (mem_bar h (List.mem_range.mp hx)).mp e⟩
  · rintro (q | ⟨ax, hx, e⟩)
    · exact .inl q
    · exact .inr ⟨ax, List.mem_range.mpr hx, (mem_bar h hx).mpr e⟩
theorem mem_barsF {a b bx : List Int} {v : PyData} : v ∈ barsF a b bx ↔ v ∈ barsL a b bx := by unfold barsF sortD; exact List.mem_mergeSort
theorem paper_shape {a b bx : List Int} {v : PyData} (h : PB a b bx) (hp : Paper a b bx v) : ∃ w y r, v = .tuple (.str w :: .int y :: r) := by
  rcases hp with hp | ⟨f, ax, z, rfl, _⟩
  · rcases (mem_barsL h).mp hp with ⟨i, j, rfl, _⟩ | ⟨ax, _, ⟨rfl, _⟩ | ⟨t, m, rfl, _⟩⟩
    · exact ⟨_, _, _, rfl⟩
    · exact ⟨_, _, _, rfl⟩
    · exact ⟨_, _, _, rfl⟩
  · exact ⟨_, _, _, rfl⟩
theorem eqv_ints : ∀ {ns : List Int} {ds : List PyData}, PyData.eqvAll (lI ns) ds = true → (∀ d ∈ ds, isTy "bool" d = false) → ds = lI ns
  | [], [], _, _ => rfl
  | [], d :: ds, h, _ => by simp [lI, PyData.eqvAll] at h
  | n :: ns, [], h, _ => by simp [lI, PyData.eqvAll] at h
  | n :: ns, d :: ds, h, hb => by
    simp only [lI, List.map_cons, PyData.eqvAll, Bool.and_eq_true] at h
    have e := eqv_ints (ns := ns) h.2 fun x hx => hb x (List.mem_cons_of_mem _ hx)
    have hd := hb d (List.mem_cons_self ..)
    have : d = .int n := by
      cases d with
      | int m => have := h.1; simp [PyData.eqv] at this; rw [this]
      | bool c => rw [isTy_bool_b] at hd; cases hd
      | _ => simp [PyData.eqv] at h
    rw [this, e]; rfl
theorem canLay_mem : ∀ {xs : List PyData}, PyData.canLayAll0 xs = true → ∀ d ∈ xs, d.canLay0 = true
  | [], _, _, h => nomatch h
  | x :: xs, hc, d, h => by
    have hc' : x.canLay0 = true ∧ PyData.canLayAll0 xs = true := by simpa [PyData.canLayAll0] using hc
    rcases List.mem_cons.mp h with rfl | h
    · exact hc'.1
    · exact canLay_mem hc'.2 d h
theorem shaped_bars {a b bx : List Int} (h : PB a b bx) : SeqAt.shaped (.tuple (barsF a b bx)) = true := by
  have one : ∀ d ∈ barsF a b bx, d.canLay0 = true ∧ d.depth ≤ 1 := fun d hd => by
    have lay : ∀ (w : Str) (ns : List Int), PyData.strOk w = true → (PyData.tuple (.str w :: lI ns)).canLay0 = true ∧ (PyData.tuple (.str w :: lI ns)).depth ≤ 1 := fun w ns hw => by
      have h1 := okd_ints ns
      have h2 := depth_ints ns
      simp only [PyData.canLay0, PyData.canLayAll0, hw, h1, PyData.depth, PyData.depthAll] at *
      simp [h2]
    rcases (mem_barsL h).mp (mem_barsF.mp hd) with ⟨i, j, rfl, _⟩ | ⟨ax, _, ⟨rfl, _⟩ | ⟨t, m, rfl, _⟩⟩
    · exact lay "sides" [(i : Int), (j : Int)] (strOk_of _)
    · exact lay "step" [(ax : Int)] (strOk_of _)
    · exact lay "gap" [(ax : Int), t, m] (strOk_of _)
  have l1 : PyData.canLayAll0 (barsF a b bx) = true := all_of (P := PyData.canLay0) (by simp [PyData.canLayAll0]) (by intros; simp [PyData.canLayAll0]) _ fun x hx => (one x hx).1
  have l2 : PyData.depthAll (barsF a b bx) ≤ 1 := depthAll_le _ fun x hx => (one x hx).2
  simp [SeqAt.shaped, PyData.canLay0, PyData.depth, l1]
  omega
theorem bars_any {a b bx : List Int} {w : Str} {ds : List PyData} (h : PB a b bx) (hb : ∀ d ∈ ds, isTy "bool" d = false) : (barsF a b bx).any (fun z => PyData.eqv z (.tuple (.str w :: ds))) = true ↔ PyData.tuple (.str w :: ds) ∈ barsL a b bx := by
  rw [List.any_eq_true]
  constructor
  · rintro ⟨d, hd, e⟩
    rw [mem_barsF] at hd
    obtain ⟨v, ns, rfl, _⟩ := pap_bars hd
    simp only [PyData.eqv, PyData.eqvAll, Bool.and_eq_true] at e
    have e2 := eqv_ints e.2 hb
    have e1 : v = w := by simpa using e.1
    rw [e1, ← e2] at hd
    exact hd
  · intro hd
    exact ⟨_, mem_barsF.mpr hd, SeqAt.eqv_refl _ (canLay_mem (by simpa [PyData.canLay0] using SeqAt.canLay_of_shaped (shaped_bars h)) _ (mem_barsF.mpr hd))⟩
theorem bars_nobool {a b bx : List Int} {w : Str} {ds : List PyData} (h : PyData.tuple (.str w :: ds) ∈ barsL a b bx) : ∀ d ∈ ds, isTy "bool" d = false := by
  obtain ⟨v, ns, e, _⟩ := pap_bars h
  cases e
  intro d hd
  obtain ⟨n, _, rfl⟩ := List.mem_map.mp hd
  exact isTy_bool_i n
theorem word_cut {a b bx : List Int} {w : Str} {ds : List PyData} (h : PB a b bx) (hp : PyData.tuple (.str w :: ds) ∈ barsL a b bx) : w ≠ ("cut" : Str) := by
  rcases (mem_barsL h).mp hp with ⟨i, j, e, _⟩ | ⟨ax, _, ⟨e, _⟩ | ⟨t, m, e, _⟩⟩
  · cases e; decide
  · cases e; decide
  · cases e; decide
theorem rd_ph_2 {a b bx : List Int} {E : DEnds} {w : Str} {ds : List PyData} {c3 : Cell} (h : PB a b bx) (hw : w ≠ ("cut" : Str)) (hno : noOL ds = true)
    (hR : ∀ c : Bool, (c = true ↔ Paper a b bx (.tuple (.str w :: ds))) → ∀ c3, E.rt (.bool c) [.d (prD a b), .d (tI bx), .d (.tuple (.str w :: ds)), c3]) :
    w_paper_holds_2 E [.d (prD a b), .d (tI bx), .d (.tuple (.str w :: ds)), c3] := by
  have pp : Paper a b bx (.tuple (.str w :: ds)) ↔ PyData.tuple (.str w :: ds) ∈ barsL a b bx := ⟨fun q => by
    rcases q with q | ⟨f, ax, z, e, _⟩
    · exact q
    · cases e; exact absurd rfl hw, fun q => .inl q⟩
  simp -implicitDefEqProofs -dsimp [w_paper_holds_2]
  refine ask_of (sp := sp_bar_papers) ⟨a, b, bx, rfl, h, ?_⟩
  (try simp -implicitDefEqProofs -dsimp)
  refine ⟨by rw [noO, noOL]; exact hno, shaped_bars h, ?_⟩
  have fin : ∀ c : Bool, (c = true ↔ PyData.tuple (.str w :: ds) ∈ barsL a b bx) → ∀ c3, E.rt (.bool c) [.d (prD a b), .d (tI bx), .d (.tuple (.str w :: ds)), c3] := fun c hc => hR c (hc.trans pp.symm)
  have ex : (∃ x, x ∈ barsF a b bx ∧ PyData.eqv x (.tuple (.str w :: ds)) = true) ↔ (barsF a b bx).any (fun z => PyData.eqv z (.tuple (.str w :: ds))) = true := by rw [List.any_eq_true]
  (try simp -implicitDefEqProofs -dsimp)
  by_cases hA : ∃ x, x ∈ barsF a b bx ∧ PyData.eqv x (.tuple (.str w :: ds)) = true
  · rw [if_pos hA]
    refine com_map (α := PyData) (.str w :: ds) (fun x => x) (by simp) (fun d => some (.bool (isTy "bool" d))) (fun d hd acc K hK => ?_) ?_
    · (try simp -implicitDefEqProofs -dsimp)
      exact hK
    · rw [show List.filterMap (fun d => some (PyData.bool (isTy "bool" d))) (PyData.str w :: ds) = (PyData.str w :: ds).map fun d => PyData.bool (isTy "bool" d) from by simp]
      (try simp -implicitDefEqProofs -dsimp)
      by_cases hb : ∀ d ∈ ds, isTy "bool" d = false
      · have q := bars_any (a := a) (b := b) (bx := bx) (w := w) h hb
        have z : anyTr (false :: ds.map (isTy "bool")) = false := by
          unfold anyTr
          rw [List.any_eq_false]
          intro x hx
          rcases List.mem_cons.mp hx with rfl | hx
          · simp
          · obtain ⟨d, hd, rfl⟩ := List.mem_map.mp hx
            simp [hb d hd]
        rw [z]
        exact fin true (by simp; exact q.mp (ex.mp hA)) _
      · have z : anyTr (false :: ds.map (isTy "bool")) = true := by
          unfold anyTr
          rw [List.any_eq_true]
          obtain ⟨d, hd⟩ := Classical.not_forall.mp hb
          obtain ⟨hm, hd⟩ := Classical.not_imp.mp hd
          exact ⟨true, List.mem_cons_of_mem _ (List.mem_map.mpr ⟨d, hm, by simpa using hd⟩), rfl⟩
        rw [z]
        exact fin false (by simp; exact fun q => hb (bars_nobool q)) _
  · rw [if_neg hA]
    refine fin false ?_ _
    constructor
    · intro q; cases q
    · intro q
      exact absurd (ex.mpr ((bars_any h (bars_nobool q)).mpr q)) hA
theorem whole_of {lo hi : Int} {d : PyData} (h : wholeB lo hi d = true) : ∃ i, d = .int i ∧ lo ≤ i ∧ i ≤ hi := by
  cases d <;> simp [wholeB] at h
  exact ⟨_, rfl, h.1, h.2⟩
theorem paper_cut {a b bx : List Int} {ds : List PyData} (h : PB a b bx) : Paper a b bx (.tuple (.str "cut" :: ds)) ↔ ∃ f ax z, ds = [.int ((f : Nat) : Int), .int ((ax : Nat) : Int), .int z] ∧ IsCut a b bx f ax z := by
  constructor
  · rintro (q | ⟨f, ax, z, e, q⟩)
    · exact absurd rfl (word_cut h q)
    · cases e; exact ⟨f, ax, z, rfl, q⟩
  · rintro ⟨f, ax, z, rfl, q⟩
    exact .inr ⟨f, ax, z, rfl, q⟩
theorem rd_ph_t2 {a b bx : List Int} {E : DEnds} {y : PyData} {r : List PyData} {c3 : Cell} (h : PB a b bx)
    (hR : ∀ c : Bool, (c = true ↔ Paper a b bx (.tuple (.str "cut" :: y :: r))) → ∀ c3, E.rt (.bool c) [.d (prD a b), .d (tI bx), .d (.tuple (.str "cut" :: y :: r)), c3]) :
    w_paper_holds_t2 E [.d (prD a b), .d (tI bx), .d (.tuple (.str "cut" :: y :: r)), c3] := by
  have hR : ∀ c : Bool, (c = true ↔ ∃ f ax z, y :: r = [.int ((f : Nat) : Int), .int ((ax : Nat) : Int), .int z] ∧ IsCut a b bx f ax z) → ∀ c3, E.rt (.bool c) [.d (prD a b), .d (tI bx), .d (.tuple (.str "cut" :: y :: r)), c3] := fun c hc => hR c (hc.trans (paper_cut h).symm)
  have no : (¬ ∃ f ax z, y :: r = [.int ((f : Nat) : Int), .int ((ax : Nat) : Int), .int z] ∧ IsCut a b bx f ax z) → ∀ c3, E.rt (.bool false) [.d (prD a b), .d (tI bx), .d (.tuple (.str "cut" :: y :: r)), c3] := fun q => hR false (by simpa using q)
  by_cases l : r.length = 2
  · obtain ⟨z, u, rfl⟩ : ∃ z u, r = [z, u] := by
      match r, l with
      | [z, u], _ => exact ⟨z, u, rfl⟩
    simp -implicitDefEqProofs -dsimp [w_paper_holds_t2]
    refine ask_of (sp := sp_is_integer) ⟨y, 0, 1, rfl, ?_⟩
    (try simp -implicitDefEqProofs -dsimp)
    cases q1 : wholeB 0 1 y
    · (try simp -implicitDefEqProofs -dsimp)
      refine no ?_ _
      rintro ⟨f, ax, z', e, hf, _⟩
      cases e
      have : wholeB 0 1 (.int (f : Int)) = true := by simp [wholeB]; omega
      rw [this] at q1; cases q1
    · obtain ⟨f, rfl, f0, f1⟩ := whole_of q1
      obtain ⟨f, rfl⟩ : ∃ k : Nat, f = k := ⟨f.toNat, by omega⟩
      (try simp -implicitDefEqProofs -dsimp)
      refine ask_of (sp := sp_is_integer) ⟨z, 0, (bx.length : Int) - 1, rfl, ?_⟩
      (try simp -implicitDefEqProofs -dsimp)
      cases q2 : wholeB 0 ((bx.length : Int) - 1) z
      · (try simp -implicitDefEqProofs -dsimp)
        refine no ?_ _
        rintro ⟨f', ax, z', e, hf, hx, _⟩
        cases e
        have : wholeB 0 ((bx.length : Int) - 1) (.int (ax : Int)) = true := by simp [wholeB]; omega
        rw [this] at q2; cases q2
      · obtain ⟨ax, rfl, a0, a1⟩ := whole_of q2
        obtain ⟨ax, rfl⟩ : ∃ k : Nat, ax = k := ⟨ax.toNat, by omega⟩
        have hx : ax < bx.length := by omega
        simp -implicitDefEqProofs -dsimp [w_paper_holds_t1, gi_at hx]
        refine ask_of (sp := sp_is_integer) ⟨u, 0, gi bx ax, rfl, ?_⟩
        (try simp -implicitDefEqProofs -dsimp)
        cases q3 : wholeB 0 (gi bx ax) u
        · (try simp -implicitDefEqProofs -dsimp)
          refine no ?_ _
          rintro ⟨f', ax', z', e, hf, hx, h0, h1, _⟩
          simp only [List.cons.injEq, PyData.int.injEq, and_true] at e
          obtain ⟨e1, e2, e3⟩ := e
          have e2 : ax = ax' := by omega
          subst e2 e3
          have : wholeB 0 (gi bx ax) (.int z') = true := by simp [wholeB]; omega
          rw [this] at q3; cases q3
        · obtain ⟨u, rfl, u0, u1⟩ := whole_of q3
          (try simp -implicitDefEqProofs -dsimp)
          refine ask_of (sp := sp_is_cut) ⟨a, b, bx, f, ax, u, rfl, h, by omega, hx, ?_⟩
          (try simp -implicitDefEqProofs -dsimp)
          refine hR _ ?_ _
          constructor
          · intro hc
            exact ⟨f, ax, u, rfl, by omega, hx, u0, u1, hc⟩
          · rintro ⟨f', ax', z', e, _, _, _, _, hc⟩
            simp only [List.cons.injEq, PyData.int.injEq, and_true] at e
            obtain ⟨e1, e2, e3⟩ := e
            have e1 : f = f' := by omega
            have e2 : ax = ax' := by omega
            subst e1 e2 e3
            exact hc
  · have l' : ¬ ((r.length : Int) + 1 + 1 = 4) := by omega
    simp -implicitDefEqProofs -dsimp [w_paper_holds_t2, l']
    refine no ?_ _
    rintro ⟨f, ax, z', e, _⟩
    simp only [List.cons.injEq] at e
    rw [e.2] at l
    exact l rfl
theorem rd_paper_holds : ∀ cs R, sp_paper_holds cs R → w_paper_holds (endsOf cs R) (start0 4 cs) := by
  rintro _ R ⟨a, b, bx, v, rfl, h, hno, hR⟩
  have no : (¬ ∃ w y r, v = .tuple (.str w :: .int y :: r)) → R (.bool false) [.d (prD a b), .d (tI bx), .d v] := fun q => hR false (by
    constructor
    · intro z; cases z
    · intro z; exact absurd (paper_shape h z) q)
  cases v with
  | tuple ds =>
    match ds with
    | [] =>
      simp -implicitDefEqProofs -dsimp [w_paper_holds]
      exact no (by rintro ⟨_, _, _, e⟩; cases e)
    | [x] =>
      simp -implicitDefEqProofs -dsimp [w_paper_holds]
      exact no (by rintro ⟨_, _, _, e⟩; cases e)
    | x :: y :: r =>
      have ln : ¬ ((r.length : Int) + 1 + 1 < 2) := by omega
      by_cases hx : ∃ w, x = .str w
      · obtain ⟨w, rfl⟩ := hx
        simp -implicitDefEqProofs -dsimp [w_paper_holds, ln, w_paper_holds_t3]
        split
        · rename_i z
          subst z
          exact rd_ph_t2 h fun c hc c3 => ⟨trivial, hR c hc⟩
        · rename_i z
          refine rd_ph_2 h z (by simpa [noO, noOL] using hno) fun c hc c3 => ?_
          exact ⟨trivial, hR c hc⟩
      · have : isTy "str" x = false := by
          cases x <;> first | rfl | exact isTy_str_d _ | exact absurd ⟨_, rfl⟩ hx
        simp -implicitDefEqProofs -dsimp [w_paper_holds, ln, this]
        exact no (by rintro ⟨w, _, _, e⟩; cases e; exact hx ⟨_, rfl⟩)
  | none => simp -implicitDefEqProofs -dsimp [w_paper_holds]; exact no (by rintro ⟨_, _, _, e⟩; cases e)
  | bool c => simp -implicitDefEqProofs -dsimp [w_paper_holds]; exact no (by rintro ⟨_, _, _, e⟩; cases e)
  | int c => simp -implicitDefEqProofs -dsimp [w_paper_holds]; exact no (by rintro ⟨_, _, _, e⟩; cases e)
  | str c => simp -implicitDefEqProofs -dsimp [w_paper_holds]; exact no (by rintro ⟨_, _, _, e⟩; cases e)
  | list c => simp -implicitDefEqProofs -dsimp [w_paper_holds]; exact no (by rintro ⟨_, _, _, e⟩; cases e)
  | dict c => simp -implicitDefEqProofs -dsimp [w_paper_holds]; exact no (by rintro ⟨_, _, _, e⟩; cases e)
section
variable {a b bx : List Int} {E : DEnds} {w : Str} {ns : List Int}
/-- where an answer is given, with whatever else stands in the slots -/
def Ans (E : DEnds) (a b bx : List Int) (w : Str) (ns : List Int) (P : Prop) : Prop := ∀ c : Bool, (c = true ↔ P) → ∀ c3 c4 c5 c6 c7, E.rt (.bool c) [.d (prD a b), .d (tI bx), .d (.tuple (.str w :: lI ns)), c3, c4, c5, c6, c7]
theorem Ans.no {P : Prop} (h : Ans E a b bx w ns P) (q : ¬ P) : ∀ c3 c4 c5 c6 c7, E.rt (.bool false) [.d (prD a b), .d (tI bx), .d (.tuple (.str w :: lI ns)), c3, c4, c5, c6, c7] := h false (by simpa using q)
theorem Ans.of {P Q : Prop} (h : Ans E a b bx w ns P) (q : Q ↔ P) : Ans E a b bx w ns Q := fun c hc => h c (hc.trans q)
end
end TW
set_option Elab.async false
set_option linter.all false
set_option maxRecDepth 100000
set_option maxHeartbeats 4000000
namespace TW
open PySem PySem.Spec PyProof.Rows L2 DL
end TW
set_option Elab.async false
set_option linter.all false
set_option maxRecDepth 100000
set_option maxHeartbeats 4000000
namespace TW
open PySem PySem.Spec PyProof.Rows L2 DL
/-- a pair of n axes, sides up to m -/
structure Pq (n : Nat) (m : Int) (p q : List Int) : Prop where
  lp : p.length = n
  lq : q.length = n
  n0 : 0 < n
  n1 : n ≤ 4
  pp : ∀ x ∈ p, 1 ≤ x ∧ x ≤ m
  pq : ∀ x ∈ q, 1 ≤ x ∧ x ≤ m
/-- a box of n axes that is filled -/
structure Bo (n : Nat) (p q bx : List Int) : Prop where
  l : bx.length = n
  b : ∀ x ∈ bx, 1 ≤ x ∧ x ≤ 10 ^ 13
  f : Fill p q bx
def sp_Lscaled : DSp := fun cs R => ∃ a1 a2 a3 n, cs = [.dk a1 a2 a3, .d (.int ((n : Nat) : Int))] ∧ 0 < n ∧ n ≤ 4 ∧ ∀ p q : List Int, Pq n 400000 p q → R (prD p q) [.dk a1 a2 a3, .d (.int (n : Int))]
def sp_Lgreat_filled : DSp := fun cs R => ∃ a1 a2 a3 p q n, cs = [.dk a1 a2 a3, .d (prD p q)] ∧ Pq n 400000 p q ∧ ∀ bx, Bo n p q bx → R (tI bx) [.dk a1 a2 a3, .d (prD p q)]
def w_Lscaled : DTS := (wRet (wFn pTupOf (wCons (wOfL (wComp (iSeq (wTup (wCons (wC (.int 0)) (wCons (wC (.int 1)) wNil)))) (gN 3) tT (wFn pTupOf (wCons (wOfL (wComp (iRange1 (wCons (wVar 1) wNil)) (gN 2) tT (wCall [true, false] sp_Lone (wCons (wVar 0) (wCons (wOfL (wLst (wCons (wOp pAddB (wC (.int 1)) (wCall [true, false] sp_Ldraw (wCons (wVar 0) (wCons (wC (.int 9)) wNil)))) (wCons (wOp pAddB (wC (.int 1)) (wCall [true, false] sp_Ldraw (wCons (wVar 0) (wCons (wC (.int 400000)) wNil)))) wNil)))) wNil))) [2])) wNil)) [3])) wNil)))
def w_Lgreat_filled_s1 : DTS := (wRet (wFn pTupOf (wCons (wVar 5) wNil)))
@[simp ↓] theorem w_Lgreat_filled_s1_ap (E : DEnds) (δ : DS) : w_Lgreat_filled_s1 E δ = (wRet (wFn pTupOf (wCons (wVar 5) wNil))) E δ := rfl
def w_Lgreat_filled_1 : DTS := (wAppend 5 (wOp pMulT (wCall [] sp_Llcm (wCons (wOp pIx (wOp pIx (wVar 1) (wC (.int 0))) (wVar 6)) (wCons (wOp pIx (wOp pIx (wVar 1) (wC (.int 1))) (wVar 6)) wNil))) (wOp pAddB (wC (.int 1)) (wCall [true, false] sp_Ldraw (wCons (wVar 0) (wCons (wC (.int 3)) wNil))))))
def w_Lgreat_filled_t1 : DTS := (wSeq (wPut 5 (wOp pAddB (wOp pMulT (wOp pIx (wOp pIx (wVar 1) (wC (.int 0))) (wVar 4)) (wCall [true, false] sp_Ldraw (wCons (wVar 0) (wCons (wOp pPow (wC (.int 10)) (wC (.int 6))) wNil)))) (wOp pMulT (wOp pIx (wOp pIx (wVar 1) (wC (.int 1))) (wVar 4)) (wOp pAddB (wC (.int 1)) (wCall [true, false] sp_Ldraw (wCons (wVar 0) (wCons (wOp pPow (wC (.int 10)) (wC (.int 6))) wNil)))))) (wVar 4)) w_Lgreat_filled_s1)
def w_Lgreat_filled_s2 : DTS := (wSeq (wFor (iRange1 (wCons (wFn pLen (wCons (wOp pIx (wVar 1) (wC (.int 0))) wNil)) wNil)) (gN 6) w_Lgreat_filled_1) w_Lgreat_filled_t1)
@[simp ↓] theorem w_Lgreat_filled_s2_ap (E : DEnds) (δ : DS) : w_Lgreat_filled_s2 E δ = (wSeq (wFor (iRange1 (wCons (wFn pLen (wCons (wOp pIx (wVar 1) (wC (.int 0))) wNil)) wNil)) (gN 6) w_Lgreat_filled_1) w_Lgreat_filled_t1) E δ := rfl
def w_Lgreat_filled_s3 : DTS := (wRet (wFn pTupOf (wCons (wOfL (wComp (iSeq (wVar 2)) (gN 3) tT (wOp pMulT (wVar 3) (wOp pAddB (wC (.int 1)) (wCall [true, false] sp_Ldraw (wCons (wVar 0) (wCons (wOp pPow (wC (.int 9)) (wC (.int 6))) wNil))))) [3])) wNil)))
@[simp ↓] theorem w_Lgreat_filled_s3_ap (E : DEnds) (δ : DS) : w_Lgreat_filled_s3 E δ = (wRet (wFn pTupOf (wCons (wOfL (wComp (iSeq (wVar 2)) (gN 3) tT (wOp pMulT (wVar 3) (wOp pAddB (wC (.int 1)) (wCall [true, false] sp_Ldraw (wCons (wVar 0) (wCons (wOp pPow (wC (.int 9)) (wC (.int 6))) wNil))))) [3])) wNil))) E δ := rfl
def w_Lgreat_filled_3 : DTS := (wSeq (wSet 2 (mE (wCall [true, false] sp_Lone (wCons (wVar 0) (wCons (wOfL (wFnL pLstOf (wCons (wVar 1) wNil))) wNil))))) w_Lgreat_filled_s3)
def w_Lgreat_filled_t2 : DTS := (wSeq (wPar2 4 5 (msCons (mE (wCall [true, false] sp_Ldraw (wCons (wVar 0) (wCons (wFn pLen (wCons (wOp pIx (wVar 1) (wC (.int 0))) wNil)) wNil)))) (msCons (mL (wLst wNil)) msNil))) w_Lgreat_filled_s2)
def w_Lgreat_filled : DTS := (wSeq (wIf (wB (wOp pEq (wCall [true, false] sp_Ldraw (wCons (wVar 0) (wCons (wC (.int 3)) wNil))) (wC (.int 0)))) w_Lgreat_filled_3 wNext) w_Lgreat_filled_t2)
theorem ln_Lscaled : ∀ cs R, sp_Lscaled cs R → cs.length = 2 := by
  intro cs R h
  unfold sp_Lscaled at h
  repeat (obtain ⟨_, h⟩ := h)
  subst_vars; rfl
theorem ln_Lgreat_filled : ∀ cs R, sp_Lgreat_filled cs R → cs.length = 2 := by
  intro cs R h
  unfold sp_Lgreat_filled at h
  repeat (obtain ⟨_, h⟩ := h)
  subst_vars; rfl
end TW
set_option Elab.async false
set_option linter.all false
set_option maxRecDepth 100000
set_option maxHeartbeats 4000000
namespace TW
open PySem PySem.Spec PyProof.Rows L2 DL
theorem two_lists {A : List Int → Prop} {as : List (List Int)} (l : as.length = 2) (h : ∀ a ∈ as, A a) : ∃ p q, as = [p, q] ∧ A p ∧ A q := by
  match as, l with
  | [p, q], _ => exact ⟨p, q, rfl, h p (by simp), h q (by simp)⟩
theorem rd_Lscaled : ∀ cs R, sp_Lscaled cs R → w_Lscaled (endsOf cs R) (start0 4 cs) := by
  rintro _ R ⟨a1, a2, a3, n, rfl, n0, n1, hR⟩
  simp -implicitDefEqProofs -dsimp [w_Lscaled]
  refine com_ofP (α := List Int) (fun p => tI p) (fun p => p.length = n ∧ ∀ x ∈ p, 1 ≤ x ∧ x ≤ 400000) (fun δ => ∃ c2, δ = [.dk a1 a2 a3, .d (.int (n : Nat)), c2, .em]) ⟨_, rfl⟩ (fun x hx acc δ K hδ hK => ?_) fun as δ la ha hδ => ?_
  · obtain ⟨c2, rfl⟩ := hδ
    (try simp -implicitDefEqProofs -dsimp)
    refine ⟨by omega, ?_⟩
    refine com_ints (fun x => 1 ≤ x ∧ x ≤ 400000) (fun x hx acc K hK => ?_) fun ms hl hn => ?_
    · (try simp -implicitDefEqProofs -dsimp)
      refine ask_draw (by omega) (by omega) fun r q0 q1 => ?_
      (try simp -implicitDefEqProofs -dsimp)
      refine ask_draw (by omega) (by omega) fun u u0 u1 => ?_
      (try simp -implicitDefEqProofs -dsimp)
      refine ask_of ⟨a1, a2, a3, _, _, rfl, rfl, by simp, by simp, fun y hy => ?_⟩
      simp only [List.mem_cons, List.not_mem_nil, or_false] at hy
      rcases hy with rfl | rfl
      · (try simp -implicitDefEqProofs -dsimp)
        exact hK _ (by omega)
      · (try simp -implicitDefEqProofs -dsimp)
        exact hK _ (by omega)
    · (try simp -implicitDefEqProofs -dsimp)
      exact hK ms _ ⟨by rw [hl]; simp [nums], hn⟩ ⟨_, rfl⟩
  · obtain ⟨c2, rfl⟩ := hδ
    obtain ⟨p, q, rfl, ⟨lp, ip⟩, lq, iq⟩ := two_lists (A := fun p => p.length = n ∧ ∀ x ∈ p, 1 ≤ x ∧ x ≤ 400000) la ha
    (try simp -implicitDefEqProofs -dsimp)
    exact hR p q ⟨lp, lq, n0, n1, ip, iq⟩
theorem lcm_big {x y : Int} (hx : 1 ≤ x ∧ x ≤ 400000) (hy : 1 ≤ y ∧ y ≤ 400000) : 1 ≤ lcmI x y ∧ lcmI x y ≤ 160000000000 ∧ x ∣ lcmI x y ∧ y ∣ lcmI x y := by
  obtain ⟨u1, u2, u3, u4⟩ := lcm_pos hx.1 hy.1
  have := Int.mul_le_mul hx.2 hy.2 (by omega) (by omega)
  exact ⟨by omega, by omega, u3, u4⟩
theorem rd_Lgreat_filled : ∀ cs R, sp_Lgreat_filled cs R → w_Lgreat_filled (endsOf cs R) (start0 7 cs) := by
  rintro _ R ⟨a1, a2, a3, p, q, n, rfl, g, hR⟩
  obtain ⟨lp, lq, n0, n1, pp, pq⟩ := g
  have gp := fun i (hi : i < n) => pp _ (gi_mem (show i < p.length by omega))
  have gq := fun i (hi : i < n) => pq _ (gi_mem (show i < q.length by omega))
  simp -implicitDefEqProofs -dsimp [w_Lgreat_filled]
  refine ask_draw (by omega) (by omega) fun r r0 r1 => ?_
  (try simp -implicitDefEqProofs -dsimp)
  by_cases z : r = 0
  · rw [if_pos z]
    simp -implicitDefEqProofs -dsimp [w_Lgreat_filled_3]
    refine ask_of ⟨a1, a2, a3, _, _, rfl, rfl, by simp, by simp, fun y hy => ?_⟩
    have hy : ∃ br, y = tI br ∧ br.length = n ∧ (∀ x ∈ br, 1 ≤ x ∧ x ≤ 400000) ∧ ∀ bx, (∀ i, i < bx.length → gi br i ∣ gi bx i) → Fill p q bx := by
      simp only [List.mem_cons, List.not_mem_nil, or_false] at hy
      rcases hy with rfl | rfl
      · exact ⟨p, rfl, lp, pp, fun bx h => .inl h⟩
      · exact ⟨q, rfl, lq, pq, fun bx h => .inr (.inl h)⟩
    obtain ⟨br, rfl, lb, pb, fb⟩ := hy
    (try simp -implicitDefEqProofs -dsimp)
    refine com_gi (fun x y => ∃ k, 1 ≤ k ∧ k ≤ 600000 ∧ y = x * k) (fun x hx acc K hK => ?_) fun ms hl hn => ?_
    · simp -implicitDefEqProofs -dsimp [CPow]
      refine ask_draw (by omega) (by omega) fun r q0 q1 => ?_
      have := pb x hx
      (try simp -implicitDefEqProofs -dsimp)
      exact ⟨cm_l (by omega), hK _ ⟨1 + r, by omega, by omega, rfl⟩⟩
    · (try simp -implicitDefEqProofs -dsimp)
      refine hR ms ⟨by omega, all_gi fun i hi => ?_, fb ms fun i hi => ?_⟩
      · obtain ⟨k, k0, k1, e⟩ := hn i (by omega)
        have b := pb _ (gi_mem (show i < br.length by omega))
        have u1 := Int.mul_le_mul b.2 k1 (by omega) (by omega)
        have u2 := Int.mul_le_mul_of_nonneg_left k0 (show 0 ≤ gi br i by omega)
        rw [e]; omega
      · obtain ⟨k, k0, k1, e⟩ := hn i (by omega)
        exact ⟨k, e⟩
  · rw [if_neg z]
    simp -implicitDefEqProofs -dsimp [w_Lgreat_filled_t2]
    refine ask_draw (by omega) (by omega) fun ax x0 x1 => ?_
    obtain ⟨ax, rfl⟩ : ∃ k : Nat, ax = k := ⟨ax.toNat, by omega⟩
    (try simp -implicitDefEqProofs -dsimp)
    intro d
    refine ⟨by omega, ?_⟩
    refine for_cnt 0 p.length (fun i δ => ∃ (ms : List Int) (c6 : Cell), δ = [.dk a1 a2 a3, .d (prD p q), .em, .em, .d (.int (ax : Nat)), .ol d (lI ms), c6] ∧ ms.length = i ∧ ∀ j, j < i → 1 ≤ gi ms j ∧ gi ms j ≤ 480000000000 ∧ gi p j ∣ gi ms j ∧ gi q j ∣ gi ms j) ⟨[], .em, rfl, rfl, fun j hj => by omega⟩ ?_ ?_
    · rintro δ ⟨ms, c6, rfl, hl, hm⟩
      have hax : ax < n := by omega
      have b1 := gp ax hax
      have b2 := gq ax hax
      simp -implicitDefEqProofs -dsimp [w_Lgreat_filled_t1, gi_at (show ax < p.length by omega), gi_at (show ax < q.length by omega), CPow]
      refine ask_draw (by omega) (by omega) fun x x0 x1 => ?_
      simp -implicitDefEqProofs -dsimp [gi_at (show ax < q.length by omega), CPow]
      refine ⟨cm_l (by omega), ask_draw (by omega) (by omega) fun y y0 y1 => ?_⟩
      refine ⟨cm_l (by omega), ⟨d, _, rfl⟩, ax, ?_, ?_⟩
      · rw [ixN_nn (by omega) (by simp; omega)]; simp
      · (try simp -implicitDefEqProofs -dsimp)
        rw [← List.map_set]
        have hs := isSum_iff (a := gi p ax) (b := gi q ax) (s := gi p ax * x + gi q ax * (1 + y)) b1.1 b2.1
        have u1 := Int.mul_le_mul b1.2 (show x ≤ 1000000 by omega) (by omega) (by omega)
        have u2 := Int.mul_le_mul b2.2 (show 1 + y ≤ 1000000 by omega) (by omega) (by omega)
        have u3 := Int.mul_nonneg (show 0 ≤ gi p ax by omega) x0
        have u4 := Int.mul_le_mul_of_nonneg_left (show 1 ≤ 1 + y by omega) (show 0 ≤ gi q ax by omega)
        refine hR _ ⟨by simp; omega, all_gi fun i hi => ?_, .inr (.inr ⟨ax, by simp; omega, fun i hi hne => ?_, ?_⟩)⟩
        · have hi : i < ms.length := by simpa using hi
          rw [gi_set hi]
          split
          · omega
          · have := hm i (by omega); omega
        · have hi : i < ms.length := by simpa using hi
          rw [gi_set hi, if_neg hne]
          have := hm i (by omega)
          exact ⟨this.2.2.1, this.2.2.2⟩
        · rw [gi_set (by omega), if_pos rfl]
          exact hs.mpr ⟨x, 1 + y, x0, by omega, rfl⟩
    · rintro i δ hi ⟨ms, c6, rfl, hl, hm⟩ K B T hK
      obtain ⟨l0, l1, l2, l3⟩ := lcm_big (gp i (by omega)) (gq i (by omega))
      have b1 := gp i (by omega)
      have b2 := gq i (by omega)
      simp -implicitDefEqProofs -dsimp [w_Lgreat_filled_1, gi_at (show i < p.length by omega), gi_at (show i < q.length by omega)]
      refine ⟨⟨d, _, rfl⟩, ask_of ⟨_, _, rfl, Pos.of b1.1 (by omega), Pos.of b2.1 (by omega), ?_⟩⟩
      (try simp -implicitDefEqProofs -dsimp)
      refine ask_draw (by omega) (by omega) fun y y0 y1 => ?_
      (try simp -implicitDefEqProofs -dsimp)
      refine ⟨cm_r (by omega), by omega, ?_⟩
      have e : lI ms ++ [PyData.int (lcmI (gi p i) (gi q i) * (1 + y))] = lI (ms ++ [lcmI (gi p i) (gi q i) * (1 + y)]) := by simp [lI]
      rw [e]
      refine hK _ ⟨_, _, rfl, by simp; omega, fun j hj => ?_⟩
      by_cases c : j < ms.length
      · have e2 : gi (ms ++ [lcmI (gi p i) (gi q i) * (1 + y)]) j = gi ms j := by unfold gi; rw [List.getElem?_append_left c]
        rw [e2]; exact hm j (by omega)
      · have c' : j = ms.length := by omega
        have e2 : gi (ms ++ [lcmI (gi p i) (gi q i) * (1 + y)]) j = lcmI (gi p i) (gi q i) * (1 + y) := by rw [c']; unfold gi; simp
        have u1 := Int.mul_le_mul_of_nonneg_left (show 1 + y ≤ 3 by omega) (show 0 ≤ lcmI (gi p i) (gi q i) by omega)
        have u2 := Int.mul_le_mul_of_nonneg_left (show 1 ≤ 1 + y by omega) (show 0 ≤ lcmI (gi p i) (gi q i) by omega)
        have hji : j = i := by omega
        rw [e2, hji]
        exact ⟨by omega, by omega, Int.dvd_mul_of_dvd_left l2, Int.dvd_mul_of_dvd_left l3⟩
end TW
set_option Elab.async false
set_option linter.all false
set_option maxRecDepth 100000
set_option maxHeartbeats 4000000
namespace DL
open PySem PySem.Spec PyProof.Rows L2
variable [Tb]
def stC (x : PyData) (k : Str → Prop) : Prop := match x with
  | .str z => k z
  | _ => False
omit [Tb] in
@[simp ↓] theorem stC_s (z : Str) (k : Str → Prop) : stC (.str z) k = k z := rfl
def wUpper (w : DE) : DE := fun δ R => w δ fun o δ1 => use o δ1 fun x => stC x fun z => z.length ≤ 1000000 ∧ R (.d (.str (Txt.upper z))) δ1
omit [Tb] in
@[simp ↓] theorem wUpper_ap (w : DE) (δ : DS) (R : Opd → DS → Prop) : wUpper w δ R = (w δ fun o δ1 => use o δ1 fun x => stC x fun z => z.length ≤ 1000000 ∧ R (.d (.str (Txt.upper z))) δ1) := rfl
section
variable {X : Cx}
end
end DL
set_option Elab.async false
set_option linter.all false
set_option maxRecDepth 100000
set_option maxHeartbeats 4000000
namespace TW
open PySem PySem.Spec PyProof.Rows L2 DL
end TW
set_option Elab.async false
set_option linter.all false
set_option maxRecDepth 100000
set_option maxHeartbeats 4000000
namespace DL
open PySem PySem.Spec PyProof.Rows L2
variable [Tb]
section
variable {X : Cx}
/-- x[:0:-1] of a tuple -/
def rev0D (x : PyData) (k : PyData → Prop) : Prop := match x with
  | .tuple ds => 1 ≤ ds.length ∧ k (.tuple (ds.drop 1).reverse)
  | _ => False
omit [Tb] in
@[simp ↓] theorem rev0D_t (ds : List PyData) (k : PyData → Prop) : rev0D (.tuple ds) k = (1 ≤ ds.length ∧ k (.tuple (ds.drop 1).reverse)) := rfl
def wRev0 (w : DE) : DE := fun δ R => w δ fun o δ1 => use o δ1 fun x => rev0D x fun z => R (.d z) δ1
omit [Tb] in
@[simp ↓] theorem wRev0_ap (w : DE) (δ : DS) (R : Opd → DS → Prop) : wRev0 w δ R = (w δ fun o δ1 => use o δ1 fun x => rev0D x fun z => R (.d z) δ1) := rfl
end
def gTL (r : DTGs) : DTG := fun x δ R => match x with
  | .list xs => r xs δ R
  | _ => False
omit [Tb] in
@[simp ↓] theorem gTL_l (r : DTGs) (xs : List PyData) (δ : DS) (R : DS → Prop) : gTL r (.list xs) δ R = r xs δ R := rfl
section
variable {X : Cx} {pos : Pos}
end
section
variable {X : Cx}
end
end DL
set_option Elab.async false
set_option linter.all false
set_option maxRecDepth 100000
set_option maxHeartbeats 4000000
namespace DL
open PySem PySem.Spec PyProof.Rows L2
variable [Tb]
def strsC (x : PyData) (k : List Str → Prop) (_u : Stop k) : Prop := ∃ ys : List Str, x = .list (ys.map PyData.str) ∧ k ys
theorem strs_one {a b : List Str} (h : a.map PyData.str = b.map PyData.str) : a = b :=
  List.map_inj_right (f := PyData.str) (fun _ _ e => PyData.str.inj e) |>.mp h
omit [Tb] in
@[simp ↓] theorem strsC_l (ys : List Str) (k : List Str → Prop) (u : Stop k) : strsC (.list (ys.map PyData.str)) k u = k ys :=
  propext ⟨fun ⟨_, e, h⟩ => strs_one (PyData.list.inj e) ▸ h, fun h => ⟨ys, rfl, h⟩⟩
def wJoinC (a : Str) (w : DE) : DE := fun δ R => w δ fun o δ1 => use o δ1 fun x => strsC x (fun ys => (ys.map (·.length)).sum + ys.length * a.length ≤ 1000000 ∧ R (.d (.str (Txt.join a ys))) δ1) .mk
omit [Tb] in
@[simp ↓] theorem wJoinC_ap (a : Str) (w : DE) (δ : DS) (R : Opd → DS → Prop) : wJoinC a w δ R = (w δ fun o δ1 => use o δ1 fun x => strsC x (fun ys => (ys.map (·.length)).sum + ys.length * a.length ≤ 1000000 ∧ R (.d (.str (Txt.join a ys))) δ1) .mk) := rfl
section
variable {X : Cx}
end
end DL
set_option Elab.async false
set_option linter.all false
set_option maxRecDepth 100000
set_option maxHeartbeats 4000000
namespace DL
open PySem PySem.Spec PyProof.Rows L2
variable [Tb]
def wSplitC (b : Str) (w : DE) : DE := fun δ R => w δ fun o δ1 => use o δ1 fun x => stC x fun z => z.length ≤ 1000000 ∧ R (.d (.list ((Txt.split z b).map PyData.str))) δ1
omit [Tb] in
@[simp ↓] theorem wSplitC_ap (b : Str) (w : DE) (δ : DS) (R : Opd → DS → Prop) : wSplitC b w δ R = (w δ fun o δ1 => use o δ1 fun x => stC x fun z => z.length ≤ 1000000 ∧ R (.d (.list ((Txt.split z b).map PyData.str))) δ1) := rfl
section
variable {X : Cx}
end
end DL
set_option Elab.async false
set_option linter.all false
set_option maxRecDepth 100000
set_option maxHeartbeats 4000000
namespace DL
open PySem PySem.Spec PyProof.Rows L2
variable [Tb]
def signs (z : Str) : List PyData := z.cps.toList.map fun c => .str ⟨#[c]⟩
def iStrD (w : DE) : DL := fun δ R => w δ fun o δ1 => use o δ1 fun x => stC x fun z => z.length ≤ 1000000 ∧ R (signs z) δ1
omit [Tb] in
@[simp ↓] theorem iStrD_ap (w : DE) (δ : DS) (R : List PyData → DS → Prop) : iStrD w δ R = (w δ fun o δ1 => use o δ1 fun x => stC x fun z => z.length ≤ 1000000 ∧ R (signs z) δ1) := rfl
section
variable {X : Cx} {tg : Expr}
end
end DL
set_option Elab.async false
set_option linter.all false
set_option maxRecDepth 100000
set_option maxHeartbeats 4000000
namespace DL
open PySem PySem.Spec PyProof.Rows L2
variable [Tb]
def repS (z : Str) (n : Nat) : Str := ⟨(List.replicate n z.cps).foldl (· ++ ·) #[]⟩
def pMulS : P2 := fun x y R => match x, y with
  | .str z, .int k => (2 ≤ k ∧ k ≤ 1000 ∧ 1 ≤ z.length ∧ z.length ≤ 1000) ∧ R (.str (repS z k.toNat))
  | _, _ => False
omit [Tb] in
@[simp ↓] theorem pMulS_si (z : Str) (k : Int) (R : PyData → Prop) : pMulS (.str z) (.int k) R = ((2 ≤ k ∧ k ≤ 1000 ∧ 1 ≤ z.length ∧ z.length ≤ 1000) ∧ R (.str (repS z k.toNat))) := rfl
section
variable {X : Cx}
end
end DL
set_option Elab.async false
set_option linter.all false
set_option maxRecDepth 100000
set_option maxHeartbeats 4000000
namespace DL
open PySem PySem.Spec PyProof.Rows L2
variable [Tb]
def obD (n : Str) (fs : List (Str × PyData)) : PyData := objD n fs
def putD1 (f : Str) (x : PyData) : List (Str × PyData) → List (Str × PyData)
  | [] => [(f, x)]
  | (g, y) :: r => if g = f then (g, x) :: r else (g, y) :: putD1 f x r
section
variable {K : PySem.W.Frag} {G : Hp}
/-- fields and what they stand for -/
def FldOk (K : PySem.W.Frag) (G : Hp) (ws : List (Str × V)) (fs : List (Str × PyData)) : Prop := ws.map (·.1) = fs.map (·.1) ∧ DnL K G (ws.map (·.2)) (fs.map (·.2))
theorem FldOk.nil : FldOk K G [] [] := ⟨rfl, .nil⟩
theorem FldOk.split {w : Str × V} {ws : List (Str × V)} {p : Str × PyData} {fs : List (Str × PyData)} (h : FldOk K G (w :: ws) (p :: fs)) : w.1 = p.1 ∧ Dn K G w.2 p.2 ∧ FldOk K G ws fs := by
  obtain ⟨h1, h2⟩ := h
  simp only [List.map_cons, List.cons.injEq] at h1 h2
  cases h2 with
  | cons a b => exact ⟨h1.1, a, h1.2, b⟩
theorem FldOk.join {w : Str × V} {ws : List (Str × V)} {p : Str × PyData} {fs : List (Str × PyData)} (h1 : w.1 = p.1) (h2 : Dn K G w.2 p.2) (h3 : FldOk K G ws fs) : FldOk K G (w :: ws) (p :: fs) := by
  refine ⟨?_, ?_⟩
  · simp only [List.map_cons, h1, h3.1]
  · exact .cons h2 h3.2
theorem FldOk.look {f : Str} {y : PyData} : ∀ {ws : List (Str × V)} {fs : List (Str × PyData)}, FldOk K G ws fs → fs.lookup f = some y → ∃ v, ws.lookup f = some v ∧ Dn K G v y
  | [], [], _, e => by cases e
  | [], _ :: _, h, _ => by cases h.1
  | _ :: _, [], h, _ => by cases h.1
  | (a, v) :: ws, (b, x) :: fs, h, e => by
    obtain ⟨h1, h2, h3⟩ := h.split
    have h1 : a = b := h1
    subst h1
    rw [List.lookup_cons] at e ⊢
    cases hb : f == a with
    | true => rw [hb] at e; cases e; exact ⟨v, rfl, h2⟩
    | false => rw [hb] at e; exact FldOk.look h3 e
theorem FldOk.none {f : Str} : ∀ {ws : List (Str × V)} {fs : List (Str × PyData)}, FldOk K G ws fs → fs.lookup f = none → ws.lookup f = none
  | [], [], _, _ => rfl
  | [], _ :: _, h, _ => by cases h.1
  | _ :: _, [], h, _ => by cases h.1
  | (a, v) :: ws, (b, x) :: fs, h, e => by
    obtain ⟨h1, _, h3⟩ := h.split
    have h1 : a = b := h1
    subst h1
    rw [List.lookup_cons] at e ⊢
    cases hb : f == a with
    | true => rw [hb] at e; cases e
    | false => rw [hb] at e; exact FldOk.none h3 e
theorem FldOk.put {f : Str} {v : V} {x : PyData} (hv : Dn K G v x) : ∀ {ws : List (Str × V)} {fs : List (Str × PyData)}, FldOk K G ws fs → FldOk K G (putF f v ws) (putD1 f x fs)
  | [], [], _ => .join rfl hv .nil
  | [], _ :: _, h => by cases h.1
  | _ :: _, [], h => by cases h.1
  | (a, u) :: ws, (b, y) :: fs, h => by
    obtain ⟨h1, h2, h3⟩ := h.split
    have h1 : a = b := h1
    subst h1
    unfold putF putD1
    split
    · exact .join rfl hv h3
    · exact .join rfl h2 (FldOk.put hv h3)
theorem FldOk.len {ws : List (Str × V)} {fs : List (Str × PyData)} (h : FldOk K G ws fs) : ws.length = fs.length := by
  have := congrArg List.length h.1
  simpa using this
end
/-- an object's data, looked at -/
def obC (x : PyData) (n : Str) (k : List (Str × PyData) → Prop) (_u : Stop k) : Prop := ∃ fs, x = obD n fs ∧ k fs
def fldC (x : PyData) (n f : Str) (k : PyData → Prop) (_u : Stop k) : Prop := ∃ fs y, x = obD n fs ∧ fs.lookup f = some y ∧ k y
/-- o.f -/
def wFld (n f : Str) (w : DE) : DE := fun δ R => w δ fun o δ1 => use o δ1 fun x => fldC x n f (fun y => R (.d y) δ1) .mk
/-- an object of one's own in a slot -/
def ownC (c : Option Cell) (n : Str) (k : Addr → List (Str × PyData) → Prop) (_u : Stop k) : Prop := ∃ a fs, c = some (.ob a n fs) ∧ k a fs
def wFldO (i : Nat) (n f : Str) : DE := fun δ R => ownC δ[i]? n (fun _ fs => ∃ y, fs.lookup f = some y ∧ R (.d y) δ) .mk
/-- the target self.f -/
def gA (i : Nat) (n f : Str) : DTG := fun x δ R => ownC δ[i]? n (fun a fs => fs.length < 900 ∧ R (δ.set i (.ob a n (putD1 f x fs)))) .mk
omit [Tb] in
@[simp ↓] theorem wFld_ap (n f : Str) (w : DE) (δ : DS) (R : Opd → DS → Prop) : wFld n f w δ R = (w δ fun o δ1 => use o δ1 fun x => fldC x n f (fun y => R (.d y) δ1) .mk) := rfl
omit [Tb] in
@[simp ↓] theorem wFldO_ap (i : Nat) (n f : Str) (δ : DS) (R : Opd → DS → Prop) : wFldO i n f δ R = ownC δ[i]? n (fun _ fs => ∃ y, fs.lookup f = some y ∧ R (.d y) δ) .mk := rfl
omit [Tb] in
@[simp ↓] theorem gA_ap (i : Nat) (n f : Str) (x : PyData) (δ : DS) (R : DS → Prop) : gA i n f x δ R = ownC δ[i]? n (fun a fs => fs.length < 900 ∧ R (δ.set i (.ob a n (putD1 f x fs)))) .mk := rfl
@[simp ↓] theorem ownC_some (a : Addr) (n : Str) (fs : List (Str × PyData)) (k : Addr → List (Str × PyData) → Prop) (u : Stop k) : ownC (some (.ob a n fs)) n k u = k a fs :=
  propext ⟨fun ⟨a', fs', e, h⟩ => by cases e; exact h, fun h => ⟨a, fs, rfl, h⟩⟩
theorem obD_inj {n : Str} {fs gs : List (Str × PyData)} (h : obD n fs = obD n gs) : fs = gs := by
  unfold obD at h
  simp only [PyData.dict.injEq, List.cons.injEq, true_and] at h
  have inj : ∀ {xs ys : List (Str × PyData)}, (xs.map fun p => (PyData.str p.1, p.2)) = (ys.map fun p => (PyData.str p.1, p.2)) → xs = ys := by
    intro xs
    induction xs with
    | nil => intro ys h; cases ys with | nil => rfl | cons y ys => cases h
    | cons x xs ih =>
      intro ys h
      cases ys with
      | nil => cases h
      | cons y ys =>
        simp only [List.map_cons, List.cons.injEq, Prod.mk.injEq, PyData.str.injEq] at h
        rw [ih h.2, Prod.ext h.1.1 h.1.2]
  exact inj h
theorem fldC_of {n f : Str} {fs : List (Str × PyData)} {y : PyData} {k : PyData → Prop} {u : Stop k} (hl : fs.lookup f = some y) : fldC (obD n fs) n f k u = k y :=
  propext ⟨fun ⟨fs', y', e, h1, h2⟩ => by
    have := obD_inj e
    subst this
    rw [hl] at h1
    cases h1
    exact h2, fun h => ⟨fs, y, rfl, hl, h⟩⟩
@[simp ↓] theorem obC_of {n : Str} {fs : List (Str × PyData)} {k : List (Str × PyData) → Prop} {u : Stop k} : obC (obD n fs) n k u = k fs :=
  propext ⟨fun ⟨fs', e, h⟩ => by rw [obD_inj e]; exact h, fun h => ⟨fs, rfl, h⟩⟩
/-- what stands for an object is one -/
theorem dn_ob {K : PySem.W.Frag} {G : Hp} {v : V} {n : Str} {fs : List (Str × PyData)} (h : Dn K G v (obD n fs)) : ∃ a C dx ws, v = .ref a ∧ G a = some (.ins C dx ws) ∧ ObjK K n C ∧ FldOk K G ws fs := by
  unfold obD at h
  generalize hx : objD n fs = x at h
  cases h with
  | ob h k e t =>
    rename_i a C dx n' ws fs'
    simp only [PyData.dict.injEq, List.cons.injEq, Prod.mk.injEq, PyData.str.injEq, true_and] at hx
    obtain ⟨rfl, h2⟩ := hx
    have : fs = fs' := obD_inj (n := n) (congrArg (fun l => PyData.dict ((PyData.int markI, PyData.str n) :: l)) h2)
    subst this
    exact ⟨a, C, dx, ws, rfl, h, k, e, t⟩
  | _ => cases hx
theorem ObjK.uniq {K : PySem.W.Frag} {n : Str} {C D : Addr} (h : ObjK K n C) (k : PySem.W.nsIn K mainGlobals n = some (some (.ref D))) : C = D := by
  have := h.at_.symm.trans k
  cases this
  rfl
section
variable {X : Cx} {e : Expr} {f : Str} {pos : Pos} {n : Str} {C : Addr}
theorem je_fld {w : DE} (hC : PySem.W.nsIn X.K mainGlobals n = some (some (.ref C))) (hn : NoAttr X.K C f) (ho : JE X e w) (hb : attributeBase e f X.env (eval e X.env) = eval e X.env := by rfl) : JE X (.Attribute e f pos) (wFld n f w) :=
  pe_le (pe_fld ho hb) fun pins s σ H Q I ⟨B, G, δ, R, rel, hw, k⟩ => ⟨B, G, δ, _, rel, hw, fun v H1 G1 o δ1 r1 s1 rel1 ok1 => by
    obtain ⟨x, ⟨fs, y, rfl, hl, q⟩, bx⟩ := use_ok rel1 ok1 r1
    have dn : Dn X.K G1 v (obD n fs) := by
      rcases bx with h | ⟨_, _, _, _, e, _⟩
      · exact h
      · cases e
    obtain ⟨a, C', dx, ws, rfl, hG, k', fo⟩ := dn_ob dn
    obtain rfl := k'.uniq hC
    obtain ⟨u, hu, du⟩ := fo.look hl
    exact ⟨a, _, dx, ws, u, rfl, rel1.sg _ _ hG, k'.cl, hn, hu, k u H1 G1 _ δ1 q s1 rel1 du⟩⟩
theorem je_fldO {i : Nat} {x : Str} {px : Pos} (hC : PySem.W.nsIn X.K mainGlobals n = some (some (.ref C))) (hn : NoAttr X.K C f) (ho : PE X (.Name x px) (tVar i)) (hb : attributeBase (.Name x px) f X.env (eval (.Name x px) X.env) = eval (.Name x px) X.env := by rfl) : JE X (.Attribute (.Name x px) f pos) (wFldO i n f) :=
  pe_le (pe_fld ho hb) fun pins s σ H Q I ⟨B, G, δ, R, rel, ⟨a, fs, hc, y, hl, q⟩, k⟩ => by
    obtain ⟨o, hσ, rfl, C', dx, ws, hH, k', fo⟩ := rel.at hc
    obtain rfl := k'.uniq hC
    obtain ⟨u, hu, du⟩ := FldOk.look fo hl
    exact ⟨.ref a, hσ, a, _, dx, ws, u, rfl, hH, k'.cl, hn, hu, k u H G _ δ q (Same.refl _) rel du⟩
theorem pg_attr {o : Expr} {ta : TE} (ha : PE X o ta) : PG X (.Attribute o f pos) (fun v σ H Q => ta σ H fun x H2 => ∃ a C dx fs, x = .ref a ∧ H2 a = some (.ins C dx fs) ∧ Cls X.K C ∧ NoAttr X.K C f ∧ fs.length < 1000 ∧ Q σ (upd H2 a (.ins C dx (putF f v fs)))) where
  run pins s σ H v u Q I r h := by
    have at_ := ha.run pins s σ H _ I h
    rw [assign_Attribute]
    intro Γ p hΓ
    simp only [Sem.wp_bind', Sem.wp_holding, Sem.wp_cmd_standAt, Sem.wp_release, Sem.wp_pure']
    refine Sem.wp_mono (model X.prog X.w) Γ _ (fun ov p1 s1 got => ?_) (fun _ _ _ z => z) _ _ (at_ Γ p hΓ)
    obtain ⟨x, H2, I2, rx, a, C, dx, fs, rfl, ea, c, nn, few, q⟩ := got
    cases rx
    exact setattr_ok (Q := fun _ s' => ∃ σ' H', Inv X pins σ' H' s' ∧ Q σ' H') I2 ea c nn few r (fun s3 I3 => ⟨σ, _, I3, q⟩) Γ _ hΓ
theorem jg_attr {i : Nat} {x : Str} {px : Pos} (hC : PySem.W.nsIn X.K mainGlobals n = some (some (.ref C))) (hn : NoAttr X.K C f) (ho : PE X (.Name x px) (tVar i)) : JG X (.Attribute (.Name x px) f pos) [] (gA i n f) :=
  pg_le (pg_attr ho) fun pins s v σ H Q I ⟨B, G, δ, d, R, rel, dn, ⟨a, fs, hc, few, q⟩, k⟩ => by
    obtain ⟨o, hσ, ok⟩ := rel.at hc
    have ok' := ok
    obtain ⟨rfl, C', dx, ws, hH, k', fo⟩ := ok
    obtain rfl := k'.uniq hC
    have fo : FldOk X.K G ws fs := fo
    refine ⟨.ref a, hσ, a, _, dx, ws, rfl, hH, k'.cl, hn, by rw [fo.len]; omega, ?_⟩
    have fo2 := FldOk.put (f := f) dn fo
    exact k σ _ G _ q (Same.refl _) (Rel.put rel hc hσ (by simp [Cell.fp]) rfl ⟨rfl, _, dx, _, upd_same, k', fo2.1, fo2.2⟩) (Only.refl _ _)
end
end DL
set_option Elab.async false
set_option linter.all false
set_option maxRecDepth 100000
set_option maxHeartbeats 4000000
namespace DL
open PySem PySem.Spec PyProof.Rows L2 StX
variable [Tb]
theorem RoomG.make {k : Nat} {A : Around} (r : RoomG (k + 1) A) (C : Addr) (us : List Value) (kw : List (Str × Value)) : RoomG k (A.under (.builtin "type.__call__" ⟨.ref C :: us, kw⟩)) :=
  ⟨r.rm.make C us kw, by
    simp only [Around.under, r.gd]
    rfl⟩
section
variable {X : Cx} {CX : CXT} {k : Nat} {f C : Addr} {fd : FuncData} {ps : List Str} {sp : Sp} {E : XK} {o e : Expr} {es : List Expr} {ta : TE} {t : TA} {m x : Str} {apos pos p : Pos}
theorem pe_methG {pl : Sem Bool} (he : PE X o ta) (c : Cls X.K C) (hm : Meth X.K C m f) (F : FnG X.prog X.w X.K X.mg X.base CX k f fd ps sp) (hr : RoomG k X.A) (hb : Binds X.K fd ps []) (hx : Passes CX X E) (ha : PA X (e :: es) t)
    (hst : starEach (e :: es) X.env = (false, eval e X.env) :: starEach es X.env := by rfl) (hpl : (backTo pos (starEach es X.env)).any (·.1) = false := by rfl)
    (ht : eval (.Call (.Attribute o m apos) (e :: es) [] pos) X.env = (do
      let ov ← eval o X.env
      standAt apos.atName
      let (f, first) ← holding [ov] (getMethod ov m pl)
      callWith pos f first (backTo pos (starEach (e :: es) X.env)) (backToKw pos (keywordEach [] X.env))) := by rfl) :
    PE X (.Call (.Attribute o m apos) (e :: es) [] pos) (tMethR C m sp E ta t) :=
  ⟨fun pins s σ H Q I h => PySem.W.methodCall_KW (pl := pl) (wpAny_mono (he.run pins s σ H _ I h) (fun u s1 got => by
    obtain ⟨v, H1, I1, rx, a, dx, fs, rfl, ea, l, q⟩ := got
    cases rx
    exact getmeth_ok I1 ea c hm l (PySem.W.callWith_K (first := [.ref a]) (h₀ := X.base) I.ok.mod.kin hm.kp (wpAny_mono (ha.run pos pins s1 σ H1 _ I1 q) (fun us s2 ⟨vs, H2, I2, r, q2⟩ =>
      ⟨I2.kIn, run_fnG (us := .ref a :: us) (vs := .ref a :: vs) F hr hb hx I2 (.cons rfl r) q2⟩) fun _ _ z => z) hst hpl)) fun _ _ z => z) ht⟩
theorem pe_methG0 {pl : Sem Bool} (he : PE X o ta) (c : Cls X.K C) (hm : Meth X.K C m f) (F : FnG X.prog X.w X.K X.mg X.base CX k f fd ps sp) (hr : RoomG k X.A) (hb : Binds X.K fd ps []) (hx : Passes CX X E)
    (ht : eval (.Call (.Attribute o m apos) [] [] pos) X.env = (do
      let ov ← eval o X.env
      standAt apos.atName
      let (f, first) ← holding [ov] (getMethod ov m pl)
      callWith pos f first (backTo pos (starEach [] X.env)) (backToKw pos (keywordEach [] X.env))) := by rfl) :
    PE X (.Call (.Attribute o m apos) [] [] pos) (tMethR C m sp E ta tNil) :=
  ⟨fun pins s σ H Q I h => PySem.W.methodCall_KW (pl := pl) (wpAny_mono (he.run pins s σ H _ I h) (fun u s1 got => by
    obtain ⟨v, H1, I1, rx, a, dx, fs, rfl, ea, l, q⟩ := got
    cases rx
    exact getmeth_ok I1 ea c hm l (PySem.W.callWith_K0 (first := [.ref a]) I1.kIn hm.kp (run_fnG (us := [.ref a]) (vs := [.ref a]) F hr hb hx I1 (.cons rfl .nil) q))) fun _ _ z => z) ht⟩
theorem run_makeG {pins : List (Addr × Obj)} {σ : L2.St} {H : Hp} {s : Shared} {Q : VK} {us : List Value} {vs : List V} (M : Mk X.K C f) (F : FnG X.prog X.w X.K X.mg X.base CX k f fd ps sp) (hr : RoomG (k + 1) X.A) (hb : Binds X.K fd ps []) (hx : Passes CX X E) (I : Inv X pins σ H s) (r : Vals vs us)
    (h : ∀ a dx, H a = Option.none → H dx = Option.none → dx ≠ a → sp (V.ref a :: vs) (upd (upd H dx (.own a)) a (.ins C dx [])) (fun v H2 => v = .non ∧ Q (.ref a) H2) E) :
    wpAny (model X.prog X.w) X.A (call (.ref C) us) (EP X pins σ Q) X.xe s := by
  have made := Inv.made (C := C) I
  have q := h (s.heap.objs.size + 1) s.heap.objs.size (I.hok.fresh (Nat.le_succ _)) (I.hok.fresh (Nat.le_refl _)) (Nat.ne_of_lt (Nat.lt_succ_self _))
  have vals : Vals (V.ref (s.heap.objs.size + 1) :: vs) (Value.ref (s.heap.objs.size + 1) :: us) := .cons rfl r
  have many : (Value.ref (s.heap.objs.size + 1) :: us ++ []).length = ps.length := (List.append_nil (Value.ref (s.heap.objs.size + 1) :: us)).symm ▸ vals.length.symm.trans (F.len _ _ _ _ q)
  have bound := hb _ (Value.ref (s.heap.objs.size + 1) :: us) made.kIn many
  rw [List.append_nil] at bound
  refine wpAny_call (make_map (f := f) I.kIn M.makes M.init (beq_iff_eq.mp M.fn) (codeAny_mono (F.run _ X.stack _ _ ⟨_, []⟩ _ _ _ E (hr.make C us []) (made.env0.make C us []) bound vals q) ?_))
  rintro (err | _ | _ | _ | u) z back <;> first | exact hx pins σ _ _ err z made back | exact False.elim back | skip
  obtain ⟨v, H', I3, rv, rfl, q3⟩ := made.after back
  exact ⟨rv, .ref (s.heap.objs.size + 1), H', I3, rfl, q3⟩
theorem pe_makeG (M : Mk X.K C f) (F : FnG X.prog X.w X.K X.mg X.base CX k f fd ps sp) (hr : RoomG (k + 1) X.A) (hb : Binds X.K fd ps []) (hg : Gl X x) (hm : X.mg x = some (.ref C)) (hx : Passes CX X E) (ha : PA X (e :: es) t) (hdb : (x == ("__debug__" : Str)) = false := by decide)
    (he : starEach (e :: es) X.env = (false, eval e X.env) :: starEach es X.env := by rfl) (hpl : (backTo pos (starEach es X.env)).any (·.1) = false := by rfl) : PE X (.Call (.Name x p) (e :: es) [] pos) (tMakeR C sp E t) :=
  ⟨fun pins s σ H Q I h => wpAny_Call_Name_kw (ld_glob I hg hm (PySem.W.callWith_K (h₀ := X.base) I.ok.mod.kin M.kp (wpAny_mono (ha.run pos pins s σ H _ I h)
    (fun us z ⟨vs, H1, I1, r, q⟩ => ⟨I1.kIn, run_makeG M F hr hb hx I1 r q⟩) fun _ _ z => z) he hpl) hdb)⟩
end
section
variable {K : PySem.W.Frag} {B G H : Hp} {δ : DS} {σ : L2.St} {a C dx : Addr} {n : Str}
theorem opds_dn : ∀ {vs : List V} {xs : List PyData}, DnL K G vs xs → OpdsOk K G σ vs (xs.map Opd.d)
  | _, [], h => by cases h; exact .nil
  | _, _ :: _, h => by cases h with | cons a b => exact .cons a (opds_dn b)
theorem slots_d : ∀ xs : List PyData, slotsOf (xs.map Opd.d) = []
  | [] => rfl
  | _ :: xs => slots_d xs
theorem cells_d (xs : List PyData) : (xs.map Opd.d).map (cellOf δ) = xs.map Cell.d := by
  rw [List.map_map]
  rfl
theorem putBack_ds : ∀ (xs : List PyData) (cs : List Cell), putBack (xs.map Opd.d) cs δ = δ
  | [], cs => by cases cs <;> rfl
  | _ :: xs, [] => rfl
  | _ :: xs, _ :: cs => putBack_ds xs cs
/-- a new object in front, no one's yet -/
theorem Rel.consOb {cs : List Cell} {τ : L2.St} (R : Rel K B G cs τ H) (h : H a = Option.none) (k : ObjK K n C) : Rel K B G (.ob a n [] :: cs) (some (.ref a) :: τ) (upd H a (.ins C dx [])) := by
  have far : ∀ {i : Nat} {c : Cell}, cs[i]? = some c → a ∉ c.fp := fun e m => by
    obtain ⟨u, eu⟩ := R.tr e m
    rw [h] at eu
    cases eu
  refine ⟨by simp [R.len], R.sg.trans (same_new h), R.sb.trans (same_new h), R.dj, fun i c w e1 e2 => ?_, fun i j c c' b e1 e2 m1 m2 => ?_, fun i c b e m => ?_, tabs_new R.tt h⟩
  · cases i with
    | zero => cases e1; cases e2; exact ⟨rfl, C, dx, [], upd_same, k, rfl, .nil⟩
    | succ i =>
      refine (R.ok i c w e1 e2).stay (Same.refl _) fun b hb => upd_ne fun z => ?_
      subst z
      exact far e1 hb
  · cases i with
    | zero =>
      cases e1
      obtain rfl := List.mem_singleton.mp m1
      cases j with
      | zero => rfl
      | succ j => exact absurd m2 (far e2)
    | succ i =>
      cases j with
      | zero =>
        cases e2
        obtain rfl := List.mem_singleton.mp m2
        exact absurd m1 (far e1)
      | succ j => exact congrArg _ (R.ap i j c c' b e1 e2 m1 m2)
  · cases i with
    | zero =>
      cases e
      obtain rfl := List.mem_singleton.mp m
      exact ⟨R.freeG h, R.freeB h⟩
    | succ i => exact R.fr i c b e m
/-- the object in front is looked at from now on, and changes no more -/
theorem Rel.dropOb {cs : List Cell} {τ : L2.St} {fs : List (Str × PyData)} {v : V} (R : Rel K B G (.ob a n fs :: cs) (some v :: τ) H) : v = .ref a ∧ ∃ u, Same G (upd G a u) ∧ Rel K B (upd G a u) cs τ H ∧ Dn K (upd G a u) (.ref a) (obD n fs) := by
  obtain ⟨ga, ba⟩ := R.fr 0 _ a rfl (by simp [Cell.fp])
  obtain ⟨e, C, dx, ws, hH, k, e2, t⟩ := R.ok 0 _ _ rfl rfl
  have sG : Same G (upd G a (.ins C dx ws)) := same_new ga
  refine ⟨by cases e; rfl, _, sG, ⟨by have := R.len; simpa using this, fun b u q => ?_, R.sb, fun b => ?_, fun i c w e1 e2 => (R.ok (i + 1) c w e1 e2).stay sG fun _ _ => rfl, fun i j c c' b e1 e2 m1 m2 => ?_, fun i c b ec m => ?_, R.tt⟩, .ob upd_same k e2 (t.mono sG)⟩
  · by_cases hb : b = a
    · subst hb; rw [upd_same] at q; cases q; exact hH
    · rw [upd_ne hb] at q; exact R.sg _ _ q
  · by_cases hb : b = a
    · subst hb; exact .inr ba
    · rw [upd_ne hb]; exact R.dj b
  · have := R.ap (i + 1) (j + 1) c c' b e1 e2 m1 m2
    exact Nat.succ.inj this
  · obtain ⟨f1, f2⟩ := R.fr (i + 1) c b ec m
    have ne : b ≠ a := fun z => by
      subst z
      have := R.ap (i + 1) 0 c _ b ec rfl m (by simp [Cell.fp])
      omega
    exact ⟨by rw [upd_ne ne]; exact f1, f2⟩
end
def madeC (cs : List Cell) (n : Str) (k : List (Str × PyData) → Prop) (_u : Stop k) : Prop := ∃ a fs rest, cs = .ob a n fs :: rest ∧ k fs
@[simp ↓] theorem madeC_cons (a : Addr) (n : Str) (fs : List (Str × PyData)) (rest : List Cell) (k : List (Str × PyData) → Prop) (u : Stop k) : madeC (.ob a n fs :: rest) n k u = k fs :=
  propext ⟨fun ⟨a', fs', r', e, h⟩ => by cases e; exact h, fun h => ⟨a, fs, rest, rfl, h⟩⟩
/-- C(..) -/
def wMake (n : Str) (sp : DSp) (w : DA) : DE := fun δ R => w δ fun os δ1 => lkL os δ1 fun xs δ2 => ∀ a : Addr, ask sp (.ob a n [] :: xs.map Cell.d) (fun y cs => y = .none ∧ madeC cs n (fun fs => R (.d (obD n fs)) δ2) .mk) .mk
/-- o.m(..) -/
def wMeth (n m : Str) (sp : DSp) (w : DE) (wa : DA) : DE := fun δ R => w δ fun o δ1 => lk o δ1 fun x δ2 => obC x n (fun fs => fs.lookup m = none ∧ wa δ2 fun os δ3 => lkL os δ3 fun xs δ4 => ask sp (.d x :: xs.map Cell.d) (fun y _ => R (.d y) δ4) .mk) .mk
omit [Tb] in
@[simp ↓] theorem wMake_ap (n : Str) (sp : DSp) (w : DA) (δ : DS) (R : Opd → DS → Prop) : wMake n sp w δ R = (w δ fun os δ1 => lkL os δ1 fun xs δ2 => ∀ a : Addr, ask sp (.ob a n [] :: xs.map Cell.d) (fun y cs => y = .none ∧ madeC cs n (fun fs => R (.d (obD n fs)) δ2) .mk) .mk) := rfl
omit [Tb] in
@[simp ↓] theorem wMeth_ap (n m : Str) (sp : DSp) (w : DE) (wa : DA) (δ : DS) (R : Opd → DS → Prop) : wMeth n m sp w wa δ R = (w δ fun o δ1 => lk o δ1 fun x δ2 => obC x n (fun fs => fs.lookup m = none ∧ wa δ2 fun os δ3 => lkL os δ3 fun xs δ4 => ask sp (.d x :: xs.map Cell.d) (fun y _ => R (.d y) δ4) .mk) .mk) := rfl
section
variable {X : Cx} {k : Nat} {f C : Addr} {fd : FuncData} {ps : List Str} {sp : DSp} {o e : Expr} {es : List Expr} {w : DE} {wa : DA} {n m x : Str} {apos pos p : Pos}
theorem je_make (ok : ObjK X.K n C) (M : Mk X.K C f) (F : FnG X.prog X.w X.K X.mg X.base CX0 k f fd ps (liftSp X.K sp)) (hr : RoomG (k + 1) X.A) (hb : Binds X.K fd ps []) (hg : Gl X x) (hm : X.mg x = some (.ref C)) (ha : JA X (e :: es) wa) (hdb : (x == ("__debug__" : Str)) = false := by decide)
    (he : starEach (e :: es) X.env = (false, eval e X.env) :: starEach es X.env := by rfl) (hpl : (backTo pos (starEach es X.env)).any (·.1) = false := by rfl) : JE X (.Call (.Name x p) (e :: es) [] pos) (wMake n sp wa) :=
  pe_le (pe_makeG (E := E0) M F hr hb hg hm pass0 ha hdb he hpl) fun pins s σ H Q I ⟨B, G, δ, R, rel, hw, kk⟩ => ⟨B, G, δ, _, rel, hw, fun vs H1 G1 os δ1 r1 s1 rel1 ok1 => by
    obtain ⟨G2, δ2, xs, q, s2, rel2, dnl⟩ := lkL_ok rel1 ok1 r1
    intro a dx na ndx ne
    have od : OpdsOk X.K G2 σ vs (xs.map Opd.d) := opds_dn dnl
    have nd : (slotsOf (xs.map Opd.d)).Nodup := by rw [slots_d]; exact List.nodup_nil
    have rc := call_rel rel2 od nd
    rw [cells_d] at rc
    have rg := rc.grow (o := .own a) ndx
    have ro := rg.consOb (C := C) (dx := dx) (n := n) (a := a) (by rw [upd_ne (Ne.symm ne)]; exact na) ok
    refine ⟨_, G2, _, _, ro, q a, fun v H' G' z cs r s3 rel3 dn => ?_⟩
    obtain ⟨rfl, a', fs, rest, rfl, r⟩ := r
    obtain ⟨e', u, s4, rel4, dn4⟩ := rel3.dropOb
    cases e'
    have back := call_back rel2 od nd (s3.trans s4) rel4
    rw [putBack_ds] at back
    exact ⟨dn_none dn, kk _ H' _ _ _ r (s1.trans (s2.trans (s3.trans s4))) back dn4⟩⟩
theorem meth_args {σ : L2.St} {Q : VK} {a : Addr} {x : PyData} {B G G2 : Hp} {R : Opd → DS → Prop} (kk : ∀ v H' G' o δ', R o δ' → Same G G' → Rel X.K B G' δ' σ H' → OpdOk X.K G' σ v o → Q v H') (s2 : Same G G2) (dn : Dn X.K G2 (.ref a) x)
    {vs : List V} {H3 G3 : Hp} {os : List Opd} {δ3 : DS} (r3 : lkL os δ3 fun xs δ4 => sp (.d x :: xs.map Cell.d) (fun y _ => R (.d y) δ4)) (s3 : Same G2 G3) (rel3 : Rel X.K B G3 δ3 σ H3) (ok3 : OpdsOk X.K G3 σ vs os) : liftSp X.K sp (.ref a :: vs) H3 Q E0 := by
  obtain ⟨G4, δ4, xs, q, s4, rel4, dnl⟩ := lkL_ok rel3 ok3 r3
  have od : OpdsOk X.K G4 σ (.ref a :: vs) ((x :: xs).map Opd.d) := opds_dn (.cons (dn.mono (s3.trans s4)) dnl)
  have nd : (slotsOf ((x :: xs).map Opd.d)).Nodup := by rw [slots_d]; exact List.nodup_nil
  have rc := call_rel rel4 od nd
  rw [cells_d] at rc
  refine ⟨_, G4, _, _, rc, q, fun v H' G' z cs r s5 rel5 d5 => ?_⟩
  have back := call_back rel4 od nd s5 rel5
  rw [putBack_ds] at back
  exact kk v H' G' (.d z) _ r (s2.trans (s3.trans (s4.trans s5))) back d5
theorem je_meth (hC : PySem.W.nsIn X.K mainGlobals n = some (some (.ref C))) (c : Cls X.K C) (hm : Meth X.K C m f) (F : FnG X.prog X.w X.K X.mg X.base CX0 k f fd ps (liftSp X.K sp)) (hr : RoomG k X.A) (hb : Binds X.K fd ps []) (ho : JE X o w) (ha : JA X (e :: es) wa) {pl : Sem Bool}
    (hst : starEach (e :: es) X.env = (false, eval e X.env) :: starEach es X.env := by rfl) (hpl : (backTo pos (starEach es X.env)).any (·.1) = false := by rfl)
    (ht : eval (.Call (.Attribute o m apos) (e :: es) [] pos) X.env = (do
      let ov ← eval o X.env
      standAt apos.atName
      let (f, first) ← holding [ov] (getMethod ov m pl)
      callWith pos f first (backTo pos (starEach (e :: es) X.env)) (backToKw pos (keywordEach [] X.env))) := by rfl) :
    JE X (.Call (.Attribute o m apos) (e :: es) [] pos) (wMeth n m sp w wa) :=
  pe_le (pe_methG (E := E0) ho c hm F hr hb pass0 ha hst hpl ht) fun pins s σ H Q I ⟨B, G, δ, R, rel, hw, kk⟩ => ⟨B, G, δ, _, rel, hw, fun v H1 G1 o δ1 r1 s1 rel1 ok1 => by
    obtain ⟨G2, δ2, y, ⟨fs, rfl, l, q⟩, s2, rel2, dn⟩ := lk_ok rel1 ok1 r1
    obtain ⟨a, C', dx, ws, rfl, hG, k', fo⟩ := dn_ob dn
    obtain rfl := k'.uniq hC
    exact ⟨a, dx, ws, rfl, rel2.sg _ _ hG, fo.none l, B, G2, δ2, _, rel2, q, fun vs H3 G3 os δ3 r3 s3 rel3 ok3 => meth_args kk (s1.trans s2) dn r3 s3 rel3 ok3⟩⟩
theorem je_meth0 (hC : PySem.W.nsIn X.K mainGlobals n = some (some (.ref C))) (c : Cls X.K C) (hm : Meth X.K C m f) (F : FnG X.prog X.w X.K X.mg X.base CX0 k f fd ps (liftSp X.K sp)) (hr : RoomG k X.A) (hb : Binds X.K fd ps []) (ho : JE X o w) {pl : Sem Bool}
    (ht : eval (.Call (.Attribute o m apos) [] [] pos) X.env = (do
      let ov ← eval o X.env
      standAt apos.atName
      let (f, first) ← holding [ov] (getMethod ov m pl)
      callWith pos f first (backTo pos (starEach [] X.env)) (backToKw pos (keywordEach [] X.env))) := by rfl) :
    JE X (.Call (.Attribute o m apos) [] [] pos) (wMeth n m sp w wNil) :=
  pe_le (pe_methG0 (E := E0) ho c hm F hr hb pass0 ht) fun pins s σ H Q I ⟨B, G, δ, R, rel, hw, kk⟩ => ⟨B, G, δ, _, rel, hw, fun v H1 G1 o δ1 r1 s1 rel1 ok1 => by
    obtain ⟨G2, δ2, y, ⟨fs, rfl, l, q⟩, s2, rel2, dn⟩ := lk_ok rel1 ok1 r1
    obtain ⟨a, C', dx, ws, rfl, hG, k', fo⟩ := dn_ob dn
    obtain rfl := k'.uniq hC
    exact ⟨a, dx, ws, rfl, rel2.sg _ _ hG, fo.none l, meth_args (os := []) kk (s1.trans s2) dn q (Same.refl _) rel2 .nil⟩⟩
end
end DL
set_option Elab.async false
set_option linter.all false
set_option maxRecDepth 100000
set_option maxHeartbeats 4000000
namespace DL
open PySem PySem.Spec PyProof.Rows L2
variable [Tb]
omit [Tb] in
theorem objK_mk {K : PySem.W.Frag} {n : Str} {C : Addr} (at_ : PySem.W.nsIn K mainGlobals n = some (some (.ref C))) (k1 : PySem.W.kitOne K (.ref C) (.type "int") = some false) (k2 : PySem.W.kitOne K (.ref C) (.type "bool") = some false) (k3 : PySem.W.kitOne K (.ref C) (.type "str") = some false)
    (k4 : PySem.W.kitOne K (.ref C) (.type "tuple") = some false) (k5 : PySem.W.kitOne K (.ref C) (.type "list") = some false) (k6 : PySem.W.kitOne K (.ref C) (.type "dict") = some false) (pg : PySem.W.plainGet K C Str.empty = true) (hd : PySem.W.hasDictIn K C = true) (po : PySem.W.plainOver K C = true)
    (sa : PySem.W.findIn K (.ref C) "__setattr__" = some (some (.builtin "object.__setattr__"))) (ha : PySem.W.findIn K (.ref C) "__class__" = some (some (.builtin "object.__class__"))) (hn : PySem.W.specialIn K (.builtin "object.__class__") "__get__" = some (some (.builtin "getset_descriptor.__get__")))
    (tk : PySem.W.takesIn K (.builtin "object.__class__") = some true) (mr : PySem.W.mroIn K C (.type "object") = some true) : ObjK K n C :=
  ⟨at_, fun T hT => by
    simp only [List.mem_cons, List.not_mem_nil, or_false] at hT
    rcases hT with rfl | rfl | rfl | rfl | rfl | rfl
    · exact k1
    · exact k2
    · exact k3
    · exact k4
    · exact k5
    · exact k6, ⟨pg, hd, po, sa⟩, ha, hn, tk, mr⟩
theorem gs_lenA {i : Nat} {n f : Str} {r : DTGs} {m : Nat} (h : ∀ xs δ R, r xs δ R → xs.length = m) : ∀ xs δ R, gsCons (gA i n f) r xs δ R → xs.length = m + 1 := fun xs δ R q => by
  cases xs with
  | nil => exact q.elim
  | cons x xs =>
    obtain ⟨a, fs, _, _, q⟩ := q
    rw [List.length_cons, h xs _ R q]
omit [Tb] in
@[simp ↓] theorem sameIo_ob (a : Addr) (n : Str) (fs gs : List (Str × PyData)) (cs : List Cell) (δ : DS) : sameIo (.ob a n fs :: cs) (.ob a n gs :: δ) = sameIo cs δ := propext ⟨fun h => h.2, fun h => ⟨⟨gs, rfl⟩, h⟩⟩
omit [Tb] in
@[simp ↓] theorem outC_ob (a : Addr) (n : Str) (fs : List (Str × PyData)) (e : Cell) (cs : List Cell) (δ : DS) : outC (.ob a n fs :: cs) (e :: δ) = e :: outC cs δ := rfl
/-- the statement at j in a class's body -/
def clsS (s : Stmt) (j : Nat) : Stmt := match s with
  | .ClassDef _ _ _ body .. => body.getD j s
  | _ => s
end DL
set_option Elab.async false
set_option linter.all false
set_option maxRecDepth 100000
set_option maxHeartbeats 4000000
namespace TW
open PySem PySem.Spec PyProof.Rows L2 DL
/-- pairs of small sides -/
structure Pq9 (p q : List Int) : Prop where
  l : q.length = p.length
  l0 : 0 < p.length
  l1 : p.length ≤ 4
  p : ∀ x ∈ p, 1 ≤ x ∧ x ≤ 1000
  q : ∀ x ∈ q, 1 ≤ x ∧ x ≤ 1000
end TW
set_option Elab.async false
set_option linter.all false
set_option maxRecDepth 100000
set_option maxHeartbeats 4000000
namespace TW
open PySem PySem.Spec PyProof.Rows L2 DL
theorem In.snoc {m y : Int} {ns : List Int} (h : In m ns) (h0 : 1 ≤ y) (h1 : y ≤ m) : In m (ns ++ [y]) := fun x hx => by
  rcases List.mem_append.mp hx with q | q
  · exact h x q
  · rw [List.mem_singleton.mp q]; exact ⟨h0, h1⟩
end TW
set_option Elab.async false
set_option linter.all false
set_option maxRecDepth 100000
set_option maxHeartbeats 4000000
namespace TW
open PySem PySem.Spec PyProof.Rows L2 DL
def jointF (a b : Int) : Int := a / gcdI a b * b
def sp_joint : DSp := fun cs R => ∃ a b, cs = [.d (.int a), .d (.int b)] ∧ Pos a ∧ Pos b ∧ R (.int (jointF a b)) cs
/-- which sides fit -/
inductive Way
  | non
  | steps (k : Int)
  | sums (l h : Int)
def Way.d : Way → PyData
  | .non => .tuple [.str "none"]
  | .steps k => .tuple [.str "steps", .int k]
  | .sums l h => .tuple [.str "sums", .int l, .int h]
def Way.fits : Way → Int → Bool
  | .non, _ => false
  | .steps k, s => decide (s % k = 0)
  | .sums l h, s => isSum l h s
def gapF : Way → PyData
  | .steps k => if k = 1 then .int 0 else .none
  | .sums l h => if gcdI l h = 1 then .int (l * h - l - h) else .none
  | .non => .none
def tailF : Way → PyData
  | .steps k => .tuple [.int 1, .int k]
  | .sums l h => .tuple [.int (jointF l h - l - h + 1), .int (gcdI l h)]
  | .non => .tuple [.int 1, .int 1]
def w_joint : DTS := (wRet (wOp pMulT (wOp pDiv (wVar 0) (wCall [] sp_common (wCons (wVar 0) (wCons (wVar 1) wNil)))) (wVar 1)))
theorem ln_joint : ∀ cs R, sp_joint cs R → cs.length = 2 := by
  intro cs R h
  unfold sp_joint at h
  repeat (obtain ⟨_, h⟩ := h)
  subst_vars; rfl
end TW
set_option Elab.async false
set_option linter.all false
set_option maxRecDepth 100000
set_option maxHeartbeats 4000000
namespace TW
open PySem PySem.Spec PyProof.Rows L2 DL
theorem rd_joint : ∀ cs R, sp_joint cs R → w_joint (endsOf cs R) (start0 2 cs) := by
  rintro _ R ⟨a, b, rfl, ⟨a0, a1⟩, ⟨b0, b1⟩, hR⟩
  obtain ⟨g0, g1⟩ := gcd_le (b := b) a0
  have B := BIG_ge
  obtain ⟨q0, q1⟩ := ediv_abs (x := a) g0 (by omega) (by omega)
  simp -implicitDefEqProofs -dsimp [w_joint]
  refine ask_of (sp := sp_common) ⟨_, _, rfl, by omega, by omega, ?_⟩
  (try simp -implicitDefEqProofs -dsimp)
  exact ⟨div_big (by omega) (by omega), mul_big (by omega) (by omega) (by omega) (by omega), hR⟩
theorem joint_dvd {a b s : Int} (ha : 1 ≤ a) (hb : 1 ≤ b) : jointF a b ∣ s ↔ a ∣ s ∧ b ∣ s := by
  obtain ⟨g0, _⟩ := gcd_le (b := b) ha
  obtain ⟨a', ea⟩ := gcd_dvd_l a b
  obtain ⟨b', eb⟩ := gcd_dvd_r a b
  have cp := gcd_parts (b := b) ha
  unfold jointF
  revert g0 ea eb cp
  generalize gcdI a b = g
  intro g0 ea eb cp
  have e1 : a / g = a' := Int.ediv_eq_of_eq_mul_right (by omega) ea
  have e2 : b / g = b' := Int.ediv_eq_of_eq_mul_right (by omega) eb
  rw [e1, e2] at cp
  rw [e1]
  constructor
  · rintro ⟨z, rfl⟩
    refine ⟨⟨b' * z, ?_⟩, ⟨a' * z, ?_⟩⟩
    · rw [ea, eb]; simp only [Int.mul_assoc, Int.mul_left_comm, Int.mul_comm]
    · simp only [Int.mul_assoc, Int.mul_left_comm, Int.mul_comm]
  · rintro ⟨⟨x, hx⟩, h2⟩
    have q : b' ∣ a' * x := by
      have : g * b' ∣ g * (a' * x) := by
        rw [← eb, ← Int.mul_assoc, ← ea, ← hx]; exact h2
      exact mul_cancel_dvd (by omega) this
    have b'1 : 1 ≤ b' := by
      have := Int.pos_of_mul_pos_right (a := g) (b := b') (by rw [← eb]; omega) (by omega)
      omega
    obtain ⟨y, hy⟩ := dvd_of_coprime b'1 cp q
    refine ⟨y, ?_⟩
    rw [hx, hy, ea, eb]
    simp only [Int.mul_assoc, Int.mul_left_comm, Int.mul_comm]
theorem joint_le {x y : Int} (hx : 1 ≤ x) (hy : 1 ≤ y) : 1 ≤ jointF x y ∧ jointF x y ≤ x * y := by
  obtain ⟨g0, g1⟩ := gcd_le (b := y) hx
  have e := Int.ediv_mul_cancel (gcd_dvd_l x y)
  have p : 1 ≤ x / gcdI x y := by
    have := Int.ediv_nonneg (show 0 ≤ x by omega) (show 0 ≤ gcdI x y by omega)
    have : x / gcdI x y ≠ 0 := fun z => by rw [z] at e; omega
    omega
  have l := Int.ediv_le_self (gcdI x y) (show 0 ≤ x by omega)
  unfold jointF
  have u1 := Int.mul_le_mul_of_nonneg_right l (show 0 ≤ y by omega)
  have u2 := Int.mul_le_mul p hy (by omega) (by omega)
  omega
end TW
set_option Elab.async false
set_option linter.all false
set_option maxRecDepth 100000
set_option maxHeartbeats 4000000
namespace TW
open PySem PySem.Spec PyProof.Rows L2 DL
/-- cuts along an axis, as the object has them -/
structure Cu where
  w : Int
  ab : Int
  ae : Int
  st : Int
  bg : Int
  am : Int
def Cu.fs (c : Cu) : List (Str × PyData) := [("whole", .int c.w), ("at_begin", .int c.ab), ("at_end", .int c.ae), ("step", .int c.st), ("begin", .int c.bg), ("amid", .int c.am)]
def Cu.d (c : Cu) : PyData := obD "Cuts" c.fs
def allF (br bx : List Int) : Int := if restsF br bx = [] then 1 else 0
def oddB (l h bx : List Int) (ax : Nat) : Bool := (restsF l bx ++ restsF h bx).any fun k => !decide (k = ax)
def amidF (l h bx : List Int) (ax : Nat) : Int × Int :=
  if gi bx ax - gi l ax - gi h ax < 0 ∨ oddB l h bx ax = true then (0, 0)
  else match timesF (gi l ax) (gi h ax) (gi bx ax - gi l ax - gi h ax) with
    | none => (0, 0)
    | some t => if gi l ax * t ≤ gi bx ax - gi l ax - gi h ax then (gi l ax * (t + 1), 1 + (gi bx ax - gi l ax - gi h ax - gi l ax * t) / jointF (gi l ax) (gi h ax)) else (0, 0)
def cuF (l h bx : List Int) (ax : Nat) : Cu := ⟨gi bx ax, allF h bx, allF l bx, jointF (gi l ax) (gi h ax), (amidF l h bx ax).1, (amidF l h bx ax).2⟩
def sp_Cuts_init : DSp := fun cs R => ∃ (x : Addr) (a b bx : List Int) (f ax : Nat), cs = [.ob x "Cuts" [], .d (prD a b), .d (tI bx), .d (.int (f : Int)), .d (.int (ax : Int))] ∧ PB a b bx ∧ f ≤ 1 ∧ ax < bx.length ∧
  R .none [.ob x "Cuts" (cuF (fst2 f a b) (fst2 f b a) bx ax).fs, .d (prD a b), .d (tI bx), .d (.int (f : Int)), .d (.int (ax : Int))]
def sp_Cuts_many : DSp := fun cs R => ∃ c : Cu, cs = [.d c.d] ∧ R (.int (c.ab + c.am + c.ae)) cs
def Cu.spot (c : Cu) (n : Int) : Int := if n < c.ab then 0 else if n - c.ab < c.am then c.bg + c.st * (n - c.ab) else c.w
def sp_Cuts_spot : DSp := fun cs R => ∃ (c : Cu) (n : Int), cs = [.d c.d, .d (.int n)] ∧ (CMul c.st (n - c.ab) ∨ CMulW c.st (n - c.ab)) ∧ R (.int (c.spot n)) cs
def w_Cuts_init_s1 : DTS := (wAsgG (wOp pAddB (wC (.int 1)) (wOp pDiv (wOp pSubB (wVar 8) (wOp pMulT (wOp pIx (wVar 5) (wVar 4)) (wVar 10))) (wFldO 0 "Cuts" "step"))) (gA 0 "Cuts" "amid"))
@[simp ↓] theorem w_Cuts_init_s1_ap (E : DEnds) (δ : DS) : w_Cuts_init_s1 E δ = (wAsgG (wOp pAddB (wC (.int 1)) (wOp pDiv (wOp pSubB (wVar 8) (wOp pMulT (wOp pIx (wVar 5) (wVar 4)) (wVar 10))) (wFldO 0 "Cuts" "step"))) (gA 0 "Cuts" "amid")) E δ := rfl
def w_Cuts_init_1 : DTS := (wSeq (wAsgG (wOp pMulT (wOp pIx (wVar 5) (wVar 4)) (wOp pAddB (wVar 10) (wC (.int 1)))) (gA 0 "Cuts" "begin")) w_Cuts_init_s1)
def w_Cuts_init_s2 : DTS := (wIf (wAnd (wB (wOp pIsNot (wVar 10) (wC .none))) (wB (wOp pLe (wOp pMulT (wOp pIx (wVar 5) (wVar 4)) (wVar 10)) (wVar 8)))) w_Cuts_init_1 wNext)
@[simp ↓] theorem w_Cuts_init_s2_ap (E : DEnds) (δ : DS) : w_Cuts_init_s2 E δ = (wIf (wAnd (wB (wOp pIsNot (wVar 10) (wC .none))) (wB (wOp pLe (wOp pMulT (wOp pIx (wVar 5) (wVar 4)) (wVar 10)) (wVar 8)))) w_Cuts_init_1 wNext) E δ := rfl
def w_Cuts_init_t1 : DTS := (wSeq (wSet 10 (mE (wCall [] sp_least_times (wCons (wOp pIx (wVar 5) (wVar 4)) (wCons (wOp pIx (wVar 6) (wVar 4)) (wCons (wVar 8) wNil)))))) w_Cuts_init_s2)
def w_Cuts_init_s3 : DTS := (wSeq (wIf (wOr (wB (wOp pLt (wVar 8) (wC (.int 0)))) (wB (wOp pNe (wOfL (wComp (iSeq (wOp pAddB (wCall [] sp_rests (wCons (wVar 5) (wCons (wVar 2) wNil))) (wCall [] sp_rests (wCons (wVar 6) (wCons (wVar 2) wNil))))) (gN 9) (wB (wOp pNe (wVar 9) (wVar 4))) (wVar 9) [9])) (wOfL (wLst wNil))))) wRetN wNext) w_Cuts_init_t1)
@[simp ↓] theorem w_Cuts_init_s3_ap (E : DEnds) (δ : DS) : w_Cuts_init_s3 E δ = (wSeq (wIf (wOr (wB (wOp pLt (wVar 8) (wC (.int 0)))) (wB (wOp pNe (wOfL (wComp (iSeq (wOp pAddB (wCall [] sp_rests (wCons (wVar 5) (wCons (wVar 2) wNil))) (wCall [] sp_rests (wCons (wVar 6) (wCons (wVar 2) wNil))))) (gN 9) (wB (wOp pNe (wVar 9) (wVar 4))) (wVar 9) [9])) (wOfL (wLst wNil))))) wRetN wNext) w_Cuts_init_t1) E δ := rfl
def w_Cuts_init_s4 : DTS := (wSeq (wSet 8 (mE (wOp pSubB (wOp pSubB (wVar 7) (wOp pIx (wVar 5) (wVar 4))) (wOp pIx (wVar 6) (wVar 4))))) w_Cuts_init_s3)
@[simp ↓] theorem w_Cuts_init_s4_ap (E : DEnds) (δ : DS) : w_Cuts_init_s4 E δ = (wSeq (wSet 8 (mE (wOp pSubB (wOp pSubB (wVar 7) (wOp pIx (wVar 5) (wVar 4))) (wOp pIx (wVar 6) (wVar 4))))) w_Cuts_init_s3) E δ := rfl
def w_Cuts_init_s5 : DTS := (wSeq (wAsgG (wTup (wCons (wCall [] sp_joint (wCons (wOp pIx (wVar 5) (wVar 4)) (wCons (wOp pIx (wVar 6) (wVar 4)) wNil))) (wCons (wC (.int 0)) (wCons (wC (.int 0)) wNil)))) (gT (gsCons (gA 0 "Cuts" "step") (gsCons (gA 0 "Cuts" "begin") (gsCons (gA 0 "Cuts" "amid") gsNil))))) w_Cuts_init_s4)
@[simp ↓] theorem w_Cuts_init_s5_ap (E : DEnds) (δ : DS) : w_Cuts_init_s5 E δ = (wSeq (wAsgG (wTup (wCons (wCall [] sp_joint (wCons (wOp pIx (wVar 5) (wVar 4)) (wCons (wOp pIx (wVar 6) (wVar 4)) wNil))) (wCons (wC (.int 0)) (wCons (wC (.int 0)) wNil)))) (gT (gsCons (gA 0 "Cuts" "step") (gsCons (gA 0 "Cuts" "begin") (gsCons (gA 0 "Cuts" "amid") gsNil))))) w_Cuts_init_s4) E δ := rfl
def w_Cuts_init_s6 : DTS := (wSeq (wAsgG (wFn pInt (wCons (wOp pEq (wCall [] sp_rests (wCons (wVar 5) (wCons (wVar 2) wNil))) (wOfL (wLst wNil))) wNil)) (gA 0 "Cuts" "at_end")) w_Cuts_init_s5)
@[simp ↓] theorem w_Cuts_init_s6_ap (E : DEnds) (δ : DS) : w_Cuts_init_s6 E δ = (wSeq (wAsgG (wFn pInt (wCons (wOp pEq (wCall [] sp_rests (wCons (wVar 5) (wCons (wVar 2) wNil))) (wOfL (wLst wNil))) wNil)) (gA 0 "Cuts" "at_end")) w_Cuts_init_s5) E δ := rfl
def w_Cuts_init_s7 : DTS := (wSeq (wAsgG (wFn pInt (wCons (wOp pEq (wCall [] sp_rests (wCons (wVar 6) (wCons (wVar 2) wNil))) (wOfL (wLst wNil))) wNil)) (gA 0 "Cuts" "at_begin")) w_Cuts_init_s6)
@[simp ↓] theorem w_Cuts_init_s7_ap (E : DEnds) (δ : DS) : w_Cuts_init_s7 E δ = (wSeq (wAsgG (wFn pInt (wCons (wOp pEq (wCall [] sp_rests (wCons (wVar 6) (wCons (wVar 2) wNil))) (wOfL (wLst wNil))) wNil)) (gA 0 "Cuts" "at_begin")) w_Cuts_init_s6) E δ := rfl
def w_Cuts_init_s8 : DTS := (wSeq (wAsgG (wVar 7) (gA 0 "Cuts" "whole")) w_Cuts_init_s7)
@[simp ↓] theorem w_Cuts_init_s8_ap (E : DEnds) (δ : DS) : w_Cuts_init_s8 E δ = (wSeq (wAsgG (wVar 7) (gA 0 "Cuts" "whole")) w_Cuts_init_s7) E δ := rfl
def w_Cuts_init : DTS := (wSeq (wPar3 5 6 7 (msCons (mE (wOp pIx (wVar 1) (wVar 3))) (msCons (mE (wOp pIx (wVar 1) (wOp pSubB (wC (.int 1)) (wVar 3)))) (msCons (mE (wOp pIx (wVar 2) (wVar 4))) msNil)))) w_Cuts_init_s8)
def w_Cuts_many : DTS := (wRet (wOp pAddB (wOp pAddB (wFld "Cuts" "at_begin" (wVar 0)) (wFld "Cuts" "amid" (wVar 0))) (wFld "Cuts" "at_end" (wVar 0))))
def w_Cuts_spot_s1 : DTS := (wRet (wIfE (wB (wOp pLt (wVar 2) (wFld "Cuts" "amid" (wVar 0)))) (wOp pAddB (wFld "Cuts" "begin" (wVar 0)) (wOp pMulT (wFld "Cuts" "step" (wVar 0)) (wVar 2))) (wFld "Cuts" "whole" (wVar 0))))
@[simp ↓] theorem w_Cuts_spot_s1_ap (E : DEnds) (δ : DS) : w_Cuts_spot_s1 E δ = (wRet (wIfE (wB (wOp pLt (wVar 2) (wFld "Cuts" "amid" (wVar 0)))) (wOp pAddB (wFld "Cuts" "begin" (wVar 0)) (wOp pMulT (wFld "Cuts" "step" (wVar 0)) (wVar 2))) (wFld "Cuts" "whole" (wVar 0)))) E δ := rfl
def w_Cuts_spot_t1 : DTS := (wSeq (wSet 2 (mE (wOp pSubB (wVar 1) (wFld "Cuts" "at_begin" (wVar 0))))) w_Cuts_spot_s1)
def w_Cuts_spot : DTS := (wSeq (wIf (wB (wOp pLt (wVar 1) (wFld "Cuts" "at_begin" (wVar 0)))) (wRet (wC (.int 0))) wNext) w_Cuts_spot_t1)
theorem ln_Cuts_init : ∀ cs R, sp_Cuts_init cs R → cs.length = 5 := by
  intro cs R h
  unfold sp_Cuts_init at h
  repeat (obtain ⟨_, h⟩ := h)
  subst_vars; rfl
theorem ln_Cuts_many : ∀ cs R, sp_Cuts_many cs R → cs.length = 1 := by
  intro cs R h
  unfold sp_Cuts_many at h
  repeat (obtain ⟨_, h⟩ := h)
  subst_vars; rfl
theorem ln_Cuts_spot : ∀ cs R, sp_Cuts_spot cs R → cs.length = 2 := by
  intro cs R h
  unfold sp_Cuts_spot at h
  repeat (obtain ⟨_, h⟩ := h)
  subst_vars; rfl
end TW
set_option Elab.async false
set_option linter.all false
set_option maxRecDepth 100000
set_option maxHeartbeats 4000000
namespace TW
open PySem PySem.Spec PyProof.Rows L2 DL
@[simp] theorem ne_whole_at_begin : (Str.ofString "whole" = Str.ofString "at_begin") = False := eq_false (by decide +kernel)
@[simp] theorem nb_whole_at_begin : (Str.ofString "whole" == Str.ofString "at_begin") = false := by decide +kernel
@[simp] theorem ne_whole_at_end : (Str.ofString "whole" = Str.ofString "at_end") = False := eq_false (by decide +kernel)
@[simp] theorem nb_whole_at_end : (Str.ofString "whole" == Str.ofString "at_end") = false := by decide +kernel
@[simp] theorem ne_whole_step : (Str.ofString "whole" = Str.ofString "step") = False := eq_false (by decide +kernel)
@[simp] theorem nb_whole_step : (Str.ofString "whole" == Str.ofString "step") = false := by decide +kernel
@[simp] theorem ne_whole_begin : (Str.ofString "whole" = Str.ofString "begin") = False := eq_false (by decide +kernel)
@[simp] theorem nb_whole_begin : (Str.ofString "whole" == Str.ofString "begin") = false := by decide +kernel
@[simp] theorem ne_whole_amid : (Str.ofString "whole" = Str.ofString "amid") = False := eq_false (by decide +kernel)
@[simp] theorem nb_whole_amid : (Str.ofString "whole" == Str.ofString "amid") = false := by decide +kernel
@[simp] theorem ne_at_begin_whole : (Str.ofString "at_begin" = Str.ofString "whole") = False := eq_false (by decide +kernel)
@[simp] theorem nb_at_begin_whole : (Str.ofString "at_begin" == Str.ofString "whole") = false := by decide +kernel
@[simp] theorem ne_at_begin_at_end : (Str.ofString "at_begin" = Str.ofString "at_end") = False := eq_false (by decide +kernel)
@[simp] theorem nb_at_begin_at_end : (Str.ofString "at_begin" == Str.ofString "at_end") = false := by decide +kernel
@[simp] theorem ne_at_begin_step : (Str.ofString "at_begin" = Str.ofString "step") = False := eq_false (by decide +kernel)
@[simp] theorem nb_at_begin_step : (Str.ofString "at_begin" == Str.ofString "step") = false := by decide +kernel
@[simp] theorem ne_at_begin_begin : (Str.ofString "at_begin" = Str.ofString "begin") = False := eq_false (by decide +kernel)
@[simp] theorem nb_at_begin_begin : (Str.ofString "at_begin" == Str.ofString "begin") = false := by decide +kernel
@[simp] theorem ne_at_begin_amid : (Str.ofString "at_begin" = Str.ofString "amid") = False := eq_false (by decide +kernel)
@[simp] theorem nb_at_begin_amid : (Str.ofString "at_begin" == Str.ofString "amid") = false := by decide +kernel
@[simp] theorem ne_at_end_whole : (Str.ofString "at_end" = Str.ofString "whole") = False := eq_false (by decide +kernel)
@[simp] theorem nb_at_end_whole : (Str.ofString "at_end" == Str.ofString "whole") = false := by decide +kernel
@[simp] theorem ne_at_end_at_begin : (Str.ofString "at_end" = Str.ofString "at_begin") = False := eq_false (by decide +kernel)
@[simp] theorem nb_at_end_at_begin : (Str.ofString "at_end" == Str.ofString "at_begin") = false := by decide +kernel
@[simp] theorem ne_at_end_step : (Str.ofString "at_end" = Str.ofString "step") = False := eq_false (by decide +kernel)
@[simp] theorem nb_at_end_step : (Str.ofString "at_end" == Str.ofString "step") = false := by decide +kernel
@[simp] theorem ne_at_end_begin : (Str.ofString "at_end" = Str.ofString "begin") = False := eq_false (by decide +kernel)
@[simp] theorem nb_at_end_begin : (Str.ofString "at_end" == Str.ofString "begin") = false := by decide +kernel
@[simp] theorem ne_at_end_amid : (Str.ofString "at_end" = Str.ofString "amid") = False := eq_false (by decide +kernel)
@[simp] theorem nb_at_end_amid : (Str.ofString "at_end" == Str.ofString "amid") = false := by decide +kernel
@[simp] theorem ne_step_whole : (Str.ofString "step" = Str.ofString "whole") = False := eq_false (by decide +kernel)
@[simp] theorem nb_step_whole : (Str.ofString "step" == Str.ofString "whole") = false := by decide +kernel
@[simp] theorem ne_step_at_begin : (Str.ofString "step" = Str.ofString "at_begin") = False := eq_false (by decide +kernel)
@[simp] theorem nb_step_at_begin : (Str.ofString "step" == Str.ofString "at_begin") = false := by decide +kernel
@[simp] theorem ne_step_at_end : (Str.ofString "step" = Str.ofString "at_end") = False := eq_false (by decide +kernel)
@[simp] theorem nb_step_at_end : (Str.ofString "step" == Str.ofString "at_end") = false := by decide +kernel
@[simp] theorem ne_step_begin : (Str.ofString "step" = Str.ofString "begin") = False := eq_false (by decide +kernel)
@[simp] theorem nb_step_begin : (Str.ofString "step" == Str.ofString "begin") = false := by decide +kernel
@[simp] theorem ne_step_amid : (Str.ofString "step" = Str.ofString "amid") = False := eq_false (by decide +kernel)
@[simp] theorem nb_step_amid : (Str.ofString "step" == Str.ofString "amid") = false := by decide +kernel
@[simp] theorem ne_begin_whole : (Str.ofString "begin" = Str.ofString "whole") = False := eq_false (by decide +kernel)
@[simp] theorem nb_begin_whole : (Str.ofString "begin" == Str.ofString "whole") = false := by decide +kernel
@[simp] theorem ne_begin_at_begin : (Str.ofString "begin" = Str.ofString "at_begin") = False := eq_false (by decide +kernel)
@[simp] theorem nb_begin_at_begin : (Str.ofString "begin" == Str.ofString "at_begin") = false := by decide +kernel
@[simp] theorem ne_begin_at_end : (Str.ofString "begin" = Str.ofString "at_end") = False := eq_false (by decide +kernel)
@[simp] theorem nb_begin_at_end : (Str.ofString "begin" == Str.ofString "at_end") = false := by decide +kernel
@[simp] theorem ne_begin_step : (Str.ofString "begin" = Str.ofString "step") = False := eq_false (by decide +kernel)
@[simp] theorem nb_begin_step : (Str.ofString "begin" == Str.ofString "step") = false := by decide +kernel
@[simp] theorem ne_begin_amid : (Str.ofString "begin" = Str.ofString "amid") = False := eq_false (by decide +kernel)
@[simp] theorem nb_begin_amid : (Str.ofString "begin" == Str.ofString "amid") = false := by decide +kernel
@[simp] theorem ne_amid_whole : (Str.ofString "amid" = Str.ofString "whole") = False := eq_false (by decide +kernel)
@[simp] theorem nb_amid_whole : (Str.ofString "amid" == Str.ofString "whole") = false := by decide +kernel
@[simp] theorem ne_amid_at_begin : (Str.ofString "amid" = Str.ofString "at_begin") = False := eq_false (by decide +kernel)
@[simp] theorem nb_amid_at_begin : (Str.ofString "amid" == Str.ofString "at_begin") = false := by decide +kernel
@[simp] theorem ne_amid_at_end : (Str.ofString "amid" = Str.ofString "at_end") = False := eq_false (by decide +kernel)
@[simp] theorem nb_amid_at_end : (Str.ofString "amid" == Str.ofString "at_end") = false := by decide +kernel
@[simp] theorem ne_amid_step : (Str.ofString "amid" = Str.ofString "step") = False := eq_false (by decide +kernel)
@[simp] theorem nb_amid_step : (Str.ofString "amid" == Str.ofString "step") = false := by decide +kernel
@[simp] theorem ne_amid_begin : (Str.ofString "amid" = Str.ofString "begin") = False := eq_false (by decide +kernel)
@[simp] theorem nb_amid_begin : (Str.ofString "amid" == Str.ofString "begin") = false := by decide +kernel
@[simp] theorem nb_many_whole : (Str.ofString "many" == Str.ofString "whole") = false := by decide +kernel
@[simp] theorem nb_many_at_begin : (Str.ofString "many" == Str.ofString "at_begin") = false := by decide +kernel
@[simp] theorem nb_many_at_end : (Str.ofString "many" == Str.ofString "at_end") = false := by decide +kernel
@[simp] theorem nb_many_step : (Str.ofString "many" == Str.ofString "step") = false := by decide +kernel
@[simp] theorem nb_many_begin : (Str.ofString "many" == Str.ofString "begin") = false := by decide +kernel
@[simp] theorem nb_many_amid : (Str.ofString "many" == Str.ofString "amid") = false := by decide +kernel
@[simp] theorem nolook_many (c : Cu) : c.fs.lookup (Str.ofString "many") = none := by simp [Cu.fs, List.lookup]
@[simp] theorem nb_spot_whole : (Str.ofString "spot" == Str.ofString "whole") = false := by decide +kernel
@[simp] theorem nb_spot_at_begin : (Str.ofString "spot" == Str.ofString "at_begin") = false := by decide +kernel
@[simp] theorem nb_spot_at_end : (Str.ofString "spot" == Str.ofString "at_end") = false := by decide +kernel
@[simp] theorem nb_spot_step : (Str.ofString "spot" == Str.ofString "step") = false := by decide +kernel
@[simp] theorem nb_spot_begin : (Str.ofString "spot" == Str.ofString "begin") = false := by decide +kernel
@[simp] theorem nb_spot_amid : (Str.ofString "spot" == Str.ofString "amid") = false := by decide +kernel
@[simp] theorem nolook_spot (c : Cu) : c.fs.lookup (Str.ofString "spot") = none := by simp [Cu.fs, List.lookup]
@[simp] theorem nb_rank_whole : (Str.ofString "rank" == Str.ofString "whole") = false := by decide +kernel
@[simp] theorem nb_rank_at_begin : (Str.ofString "rank" == Str.ofString "at_begin") = false := by decide +kernel
@[simp] theorem nb_rank_at_end : (Str.ofString "rank" == Str.ofString "at_end") = false := by decide +kernel
@[simp] theorem nb_rank_step : (Str.ofString "rank" == Str.ofString "step") = false := by decide +kernel
@[simp] theorem nb_rank_begin : (Str.ofString "rank" == Str.ofString "begin") = false := by decide +kernel
@[simp] theorem nb_rank_amid : (Str.ofString "rank" == Str.ofString "amid") = false := by decide +kernel
@[simp] theorem nolook_rank (c : Cu) : c.fs.lookup (Str.ofString "rank") = none := by simp [Cu.fs, List.lookup]
theorem look_whole (c : Cu) : c.fs.lookup (Str.ofString "whole") = some (.int c.w) := by simp [Cu.fs, List.lookup]
theorem look_at_begin (c : Cu) : c.fs.lookup (Str.ofString "at_begin") = some (.int c.ab) := by simp [Cu.fs, List.lookup]
theorem look_at_end (c : Cu) : c.fs.lookup (Str.ofString "at_end") = some (.int c.ae) := by simp [Cu.fs, List.lookup]
theorem look_step (c : Cu) : c.fs.lookup (Str.ofString "step") = some (.int c.st) := by simp [Cu.fs, List.lookup]
theorem look_begin (c : Cu) : c.fs.lookup (Str.ofString "begin") = some (.int c.bg) := by simp [Cu.fs, List.lookup]
theorem look_amid (c : Cu) : c.fs.lookup (Str.ofString "amid") = some (.int c.am) := by simp [Cu.fs, List.lookup]
@[simp ↓] theorem fld_whole (c : Cu) (k : PyData → Prop) (u : Stop k) : fldC c.d (Str.ofString "Cuts") (Str.ofString "whole") k u = k (.int c.w) := fldC_of (look_whole c)
@[simp ↓] theorem fld_at_begin (c : Cu) (k : PyData → Prop) (u : Stop k) : fldC c.d (Str.ofString "Cuts") (Str.ofString "at_begin") k u = k (.int c.ab) := fldC_of (look_at_begin c)
@[simp ↓] theorem fld_at_end (c : Cu) (k : PyData → Prop) (u : Stop k) : fldC c.d (Str.ofString "Cuts") (Str.ofString "at_end") k u = k (.int c.ae) := fldC_of (look_at_end c)
@[simp ↓] theorem fld_step (c : Cu) (k : PyData → Prop) (u : Stop k) : fldC c.d (Str.ofString "Cuts") (Str.ofString "step") k u = k (.int c.st) := fldC_of (look_step c)
@[simp ↓] theorem fld_begin (c : Cu) (k : PyData → Prop) (u : Stop k) : fldC c.d (Str.ofString "Cuts") (Str.ofString "begin") k u = k (.int c.bg) := fldC_of (look_begin c)
@[simp ↓] theorem fld_amid (c : Cu) (k : PyData → Prop) (u : Stop k) : fldC c.d (Str.ofString "Cuts") (Str.ofString "amid") k u = k (.int c.am) := fldC_of (look_amid c)
theorem gi_pos {a : List Int} {i n : Nat} (l : a.length = n) (hi : i < n) (h : ∀ x ∈ a, Pos x) : 1 ≤ gi a i ∧ gi a i ≤ BIG := h _ (gi_mem (by omega))
theorem cpart_iff {br bx : List Int} {ax : Nat} {s : Int} (hax : ax < bx.length) : partB br bx ax s = true ↔ s = 0 ∨ ((∀ i, i < bx.length → i ≠ ax → gi br i ∣ gi bx i) ∧ gi br ax ∣ s) := by
  unfold partB
  rw [Bool.or_eq_true, decide_eq_true_eq, List.isEmpty_iff, rests_nil, List.length_set]
  refine or_congr Iff.rfl ⟨fun h => ⟨fun i hi ne => ?_, ?_⟩, fun h i hi => ?_⟩
  · have := h i hi
    rwa [gi_set hi, if_neg ne] at this
  · have := h ax hax
    rwa [gi_set hax, if_pos rfl] at this
  · rw [gi_set hi]
    split
    · rename_i e
      rw [e]
      exact h.2
    · rename_i ne
      exact h.1 i hi ne
theorem odd_iff {l h bx : List Int} {ax : Nat} : oddB l h bx ax = false ↔ ∀ i, i < bx.length → i ≠ ax → gi l i ∣ gi bx i ∧ gi h i ∣ gi bx i := by
  unfold oddB
  rw [List.any_eq_false]
  constructor
  · intro q i hi ne
    constructor
    · apply Int.dvd_of_emod_eq_zero
      apply Classical.byContradiction
      intro z
      exact q i (List.mem_append_left _ (mem_rests.mpr ⟨hi, z⟩)) (by simpa using ne)
    · apply Int.dvd_of_emod_eq_zero
      apply Classical.byContradiction
      intro z
      exact q i (List.mem_append_right _ (mem_rests.mpr ⟨hi, z⟩)) (by simpa using ne)
  · intro q i hi z
    have ne : i ≠ ax := by simpa using z
    rcases List.mem_append.mp hi with m | m
    · obtain ⟨h1, h2⟩ := mem_rests.mp m
      exact h2 (Int.emod_eq_zero_of_dvd (q i h1 ne).1)
    · obtain ⟨h1, h2⟩ := mem_rests.mp m
      exact h2 (Int.emod_eq_zero_of_dvd (q i h1 ne).2)
theorem cut_amid {l h bx : List Int} {ax : Nat} {z : Int} (hax : ax < bx.length) (z0 : 0 < z) (z1 : z < gi bx ax) : cutB l h bx ax z = true ↔ oddB l h bx ax = false ∧ gi l ax ∣ z ∧ gi h ax ∣ gi bx ax - z := by
  unfold cutB
  rw [Bool.and_eq_true, cpart_iff hax, cpart_iff hax, odd_iff]
  constructor
  · rintro ⟨h1 | ⟨h1, h2⟩, h3 | ⟨h3, h4⟩⟩
    · omega
    · omega
    · omega
    · exact ⟨fun i hi ne => ⟨h1 i hi ne, h3 i hi ne⟩, h2, h4⟩
  · rintro ⟨h1, h2, h3⟩
    exact ⟨.inr ⟨fun i hi ne => (h1 i hi ne).1, h2⟩, .inr ⟨fun i hi ne => (h1 i hi ne).2, h3⟩⟩
theorem all_iff (br bx : List Int) : allF br bx = 1 ↔ restsF br bx = [] := by unfold allF; split <;> simp_all
theorem all_01 (br bx : List Int) : allF br bx = 0 ∨ allF br bx = 1 := by unfold allF; split <;> simp
theorem cut_zero {l h bx : List Int} {ax : Nat} (hax : ax < bx.length) (s0 : 1 ≤ gi bx ax) : cutB l h bx ax 0 = true ↔ allF h bx = 1 := by
  unfold cutB
  rw [Bool.and_eq_true, cpart_iff hax, cpart_iff hax, all_iff, rests_nil, Int.sub_zero]
  constructor
  · rintro ⟨_, h1 | ⟨h1, h2⟩⟩
    · omega
    · intro i hi
      by_cases e : i = ax
      · rw [e]; exact h2
      · exact h1 i hi e
  · intro q
    exact ⟨.inl rfl, .inr ⟨fun i hi _ => q i hi, q ax hax⟩⟩
theorem cut_side {l h bx : List Int} {ax : Nat} (hax : ax < bx.length) (s0 : 1 ≤ gi bx ax) : cutB l h bx ax (gi bx ax) = true ↔ allF l bx = 1 := by
  unfold cutB
  rw [Bool.and_eq_true, cpart_iff hax, cpart_iff hax, all_iff, rests_nil, Int.sub_self]
  constructor
  · rintro ⟨h1 | ⟨h1, h2⟩, _⟩
    · omega
    · intro i hi
      by_cases e : i = ax
      · rw [e]; exact h2
      · exact h1 i hi e
  · intro q
    exact ⟨.inr ⟨fun i hi _ => q i hi, q ax hax⟩, .inl rfl⟩
/-- the places amid -/
theorem amid_iff {l h bx : List Int} {ax : Nat} (hl : 1 ≤ gi l ax) (hh : 1 ≤ gi h ax) (z : Int) :
    (∃ k : Int, 0 ≤ k ∧ k < (amidF l h bx ax).2 ∧ z = (amidF l h bx ax).1 + jointF (gi l ax) (gi h ax) * k) ↔ 0 < z ∧ z < gi bx ax ∧ oddB l h bx ax = false ∧ gi l ax ∣ z ∧ gi h ax ∣ gi bx ax - z := by
  have jl := joint_le hl hh
  have jd := (joint_dvd (s := jointF (gi l ax) (gi h ax)) hl hh).mp (Int.dvd_refl _)
  have jp : jointF (gi l ax) (gi h ax) = gi l ax * (gi h ax / gcdI (gi l ax) (gi h ax)) := by
    obtain ⟨a', ea⟩ := gcd_dvd_l (gi l ax) (gi h ax)
    obtain ⟨b', eb⟩ := gcd_dvd_r (gi l ax) (gi h ax)
    obtain ⟨g0, _⟩ := gcd_le (b := gi h ax) hl
    unfold jointF
    generalize gcdI (gi l ax) (gi h ax) = g at *
    rw [show gi h ax / g = b' by rw [eb]; exact Int.mul_ediv_cancel_left _ (by omega), show gi l ax / g = a' by rw [ea]; exact Int.mul_ediv_cancel_left _ (by omega)]
    rw [eb, ea]
    simp only [Int.mul_assoc, Int.mul_comm, Int.mul_left_comm]
  have gd := gcd_dvd_l (gi l ax) (gi h ax)
  have ge := gcd_dvd_r (gi l ax) (gi h ax)
  unfold amidF
  generalize hlo : gi l ax = lo at *
  generalize hhi : gi h ax = hi at *
  generalize gi bx ax = s at *
  generalize jointF lo hi = st at *
  have split : 0 < z → lo ∣ z → ∃ x, 0 ≤ x ∧ z = lo * (x + 1) := fun z0 ⟨x, e⟩ => by
    have : 0 < x := by
      apply Classical.byContradiction
      intro q
      have : lo * x ≤ lo * 0 := Int.mul_le_mul_of_nonneg_left (by omega) (by omega)
      omega
    exact ⟨x - 1, by omega, by rw [e, Int.sub_add_cancel]⟩
  have big : ∀ w : Int, 0 < w → hi ∣ w → hi ≤ w := fun w w0 d => Int.le_of_dvd w0 d
  by_cases hc : s - lo - hi < 0 ∨ oddB l h bx ax = true
  · rw [if_pos hc]
    constructor
    · rintro ⟨k, k0, k1, _⟩
      exact absurd k1 (by simp; omega)
    · rintro ⟨z0, z1, od, d1, d2⟩
      rcases hc with q | q
      · have := Int.le_of_dvd z0 d1
        have := big _ (by omega) d2
        omega
      · rw [od] at q; cases q
  · rw [if_neg hc]
    have od : oddB l h bx ax = false := by
      cases e : oddB l h bx ax with
      | false => rfl
      | true => exact absurd (.inr e) hc
    have r0 : ¬ s - lo - hi < 0 := fun q => hc (.inl q)
    generalize hr : s - lo - hi = r at *
    have toR : ∀ x, z = lo * (x + 1) → hi ∣ s - z → hi ∣ r - lo * x := fun x e d => by
      have : r - lo * x = (s - z) - hi := by rw [e, Int.mul_add, Int.mul_one]; omega
      rw [this]
      exact Int.dvd_sub d (Int.dvd_refl _)
    cases ht : timesF lo hi r with
    | none =>
      constructor
      · rintro ⟨k, k0, k1, _⟩
        exact absurd k1 (by simp; omega)
      · rintro ⟨z0, z1, _, d1, d2⟩
        obtain ⟨x, x0, e⟩ := split z0 d1
        have d3 := toR x e d2
        refine absurd ?_ (times_none.mp ht)
        have : r = (r - lo * x) + lo * x := by omega
        rw [this]
        exact Int.dvd_add (Int.dvd_trans ge d3) (Int.dvd_mul_of_dvd_left gd)
    | some t =>
      obtain ⟨_, t0, _, dt⟩ := times_some hl hh ht
      simp only
      by_cases hle : lo * t ≤ r
      · rw [if_pos hle]
        constructor
        · rintro ⟨k, k0, k1, e⟩
          have k1 : k < 1 + (r - lo * t) / st := k1
          have e : z = lo * (t + 1) + st * k := e
          have q1 : k ≤ (r - lo * t) / st := by omega
          have q2 : k * st ≤ r - lo * t := (Int.le_ediv_iff_mul_le (by omega)).mp q1
          have q3 : 0 ≤ st * k := Int.mul_nonneg (by omega) k0
          have q4 : 0 ≤ lo * t := Int.mul_nonneg (by omega) t0
          rw [Int.mul_comm] at q2
          rw [Int.mul_add, Int.mul_one] at e
          refine ⟨by omega, by omega, od, ?_, ?_⟩
          · rw [e]
            exact Int.dvd_add (Int.dvd_add (Int.dvd_mul_right ..) (Int.dvd_refl _)) (Int.dvd_mul_of_dvd_left jd.1)
          · have : s - z = (r - lo * t) + hi - st * k := by omega
            rw [this]
            exact Int.dvd_sub (Int.dvd_add dt (Int.dvd_refl _)) (Int.dvd_mul_of_dvd_left jd.2)
        · rintro ⟨z0, z1, _, d1, d2⟩
          obtain ⟨x, x0, e⟩ := split z0 d1
          obtain ⟨tx, k, ek⟩ := times_least hl hh ht x0 (toR x e d2)
          have m1 : 1 ≤ hi / gcdI lo hi := by
            apply Classical.byContradiction
            intro q
            have : lo * (hi / gcdI lo hi) ≤ lo * 0 := Int.mul_le_mul_of_nonneg_left (by omega) (by omega)
            omega
          have k0 : 0 ≤ k := by
            apply Classical.byContradiction
            intro q
            have : hi / gcdI lo hi * k ≤ hi / gcdI lo hi * (-1) := Int.mul_le_mul_of_nonneg_left (by omega) (by omega)
            omega
          have xe : lo * x = lo * t + st * k := by
            have : x = t + hi / gcdI lo hi * k := by omega
            rw [this, jp, Int.mul_add, Int.mul_assoc]
          rw [Int.mul_add, Int.mul_one] at e
          refine ⟨k, k0, ?_, ?_⟩
          · show k < 1 + (r - lo * t) / st
            have := big _ (by omega) d2
            have : k * st ≤ r - lo * t := by rw [Int.mul_comm]; omega
            have := (Int.le_ediv_iff_mul_le (show 0 < st by omega)).mpr this
            omega
          · show z = lo * (t + 1) + st * k
            rw [Int.mul_add, Int.mul_one]
            omega
      · rw [if_neg hle]
        constructor
        · rintro ⟨k, k0, k1, _⟩
          exact absurd k1 (by simp; omega)
        · rintro ⟨z0, z1, _, d1, d2⟩
          obtain ⟨x, x0, e⟩ := split z0 d1
          obtain ⟨tx, _⟩ := times_least hl hh ht x0 (toR x e d2)
          have := big _ (by omega) d2
          have : lo * t ≤ lo * x := Int.mul_le_mul_of_nonneg_left tx (by omega)
          rw [Int.mul_add, Int.mul_one] at e
          omega
theorem amid_nn {l h bx : List Int} {ax : Nat} (hl : 1 ≤ gi l ax) (hh : 1 ≤ gi h ax) : 0 ≤ (amidF l h bx ax).2 := by
  have jl := joint_le hl hh
  unfold amidF
  split
  · simp
  · split
    · simp
    · split
      · rename_i t _ q
        have := Int.ediv_nonneg (show 0 ≤ gi bx ax - gi l ax - gi h ax - gi l ax * t by omega) (show 0 ≤ jointF (gi l ax) (gi h ax) by omega)
        show 0 ≤ 1 + (gi bx ax - gi l ax - gi h ax - gi l ax * t) / jointF (gi l ax) (gi h ax)
        omega
      · simp
theorem amid_le {l h bx : List Int} {ax : Nat} (hl : 1 ≤ gi l ax) (hh : 1 ≤ gi h ax) (hs : 1 ≤ gi bx ax) : (amidF l h bx ax).2 ≤ gi bx ax + 1 := by
  have jl := joint_le hl hh
  unfold amidF
  split
  · show (0 : Int) ≤ _
    omega
  · rename_i c
    split
    · show (0 : Int) ≤ _
      omega
    · rename_i t ht
      obtain ⟨_, t0, _, _⟩ := times_some hl hh ht
      split
      · have := Int.mul_nonneg (show 0 ≤ gi l ax by omega) t0
        have := Int.ediv_le_self (jointF (gi l ax) (gi h ax)) (show 0 ≤ gi bx ax - gi l ax - gi h ax - gi l ax * t by omega)
        show 1 + (gi bx ax - gi l ax - gi h ax - gi l ax * t) / jointF (gi l ax) (gi h ax) ≤ _
        omega
      · show (0 : Int) ≤ _
        omega
theorem rd_Cuts_many : ∀ cs R, sp_Cuts_many cs R → w_Cuts_many (endsOf cs R) (start0 1 cs) := by
  rintro _ R ⟨c, rfl, hR⟩
  simp -implicitDefEqProofs -dsimp [w_Cuts_many]
  exact hR
theorem rd_Cuts_spot : ∀ cs R, sp_Cuts_spot cs R → w_Cuts_spot (endsOf cs R) (start0 3 cs) := by
  rintro _ R ⟨c, n, rfl, hb, hR⟩
  simp -implicitDefEqProofs -dsimp [w_Cuts_spot, w_Cuts_spot_t1]
  unfold Cu.spot at hR
  split
  · rename_i h1
    rw [if_pos h1] at hR
    exact hR
  · rename_i h1
    rw [if_neg h1] at hR
    split
    · rename_i h2
      rw [if_pos h2] at hR
      exact ⟨hb, hR⟩
    · rename_i h2
      rw [if_neg h2] at hR
      exact hR
theorem PB.f1 {a b bx : List Int} {f : Nat} (h : PB a b bx) : (fst2 f a b).length = bx.length ∧ ∀ x ∈ fst2 f a b, Pos x := by
  unfold fst2
  split
  · exact ⟨h.la, h.pa⟩
  · exact ⟨h.lb, h.pb⟩
theorem PB.f2 {a b bx : List Int} {f : Nat} (h : PB a b bx) : (fst2 f b a).length = bx.length ∧ ∀ x ∈ fst2 f b a, Pos x := by
  unfold fst2
  split
  · exact ⟨h.lb, h.pb⟩
  · exact ⟨h.la, h.pa⟩
theorem lN_nil (l : List Nat) : (PyData.eqvAll (lN l) [] = true) = (l = []) := by
  cases l <;> simp [PyData.eqvAll, lN]
theorem fm_ne (ax : Nat) : ∀ l : List Nat, l.filterMap (fun k => if k = ax then none else some (PyData.int (k : Int))) = (l.filter fun k => !decide (k = ax)).map fun (k : Nat) => PyData.int (k : Int)
  | [] => rfl
  | a :: r => by
    by_cases h : a = ax
    · simp [h, fm_ne ax r]
    · simp [h, fm_ne ax r]
theorem rd_Cuts_init : ∀ cs R, sp_Cuts_init cs R → w_Cuts_init (endsOf cs R) (start0 11 cs) := by
  rintro _ R ⟨x, a, b, bx, f, ax, rfl, h, hf, hax, hR⟩
  have pick : ([tI a, tI b] : List PyData)[f]? = some (tI (fst2 f a b)) ∧ atI [tI a, tI b] (1 - (f : Int)) = some (tI (fst2 f b a)) := by
    obtain rfl | rfl : f = 0 ∨ f = 1 := by omega
    · exact ⟨rfl, rfl⟩
    · exact ⟨rfl, rfl⟩
  have hx := gi_at hax
  obtain ⟨ll, lp⟩ := h.f1 (f := f)
  obtain ⟨hl, hp⟩ := h.f2 (f := f)
  generalize fst2 f a b = lo at *
  generalize fst2 f b a = hi at *
  have l1 := h.l1
  have hx2 := gi_at (ns := lo) (show ax < lo.length by omega)
  have hx3 := gi_at (ns := hi) (show ax < hi.length by omega)
  have p1 := gi_pos ll hax lp
  have p2 := gi_pos hl hax hp
  have p3 := gi_pos rfl hax h.px
  simp -implicitDefEqProofs -dsimp [w_Cuts_init, pick.1, pick.2, hx, tI]
  refine ask_of (sp := sp_rests) ⟨hi, bx, rfl, by omega, fun y hy => (hp y hy).1, ?_⟩
  have s1 := shaped_nats (restsF hi bx)
  have s2 := shaped_nats (restsF lo bx)
  have e1 := lN_nil (restsF hi bx)
  have e2 := lN_nil (restsF lo bx)
  simp -implicitDefEqProofs -dsimp [s1, e1, shaped_nil, putD1]
  refine ask_of (sp := sp_rests) ⟨lo, bx, rfl, by omega, fun y hy => (lp y hy).1, ?_⟩
  simp -implicitDefEqProofs -dsimp [s2, e1, e2, shaped_nil, putD1, w_Cuts_init_s5, hx2, hx3]
  refine ask_of (sp := sp_joint) ⟨_, _, rfl, p1, p2, ?_⟩
  have fin : ∀ bg am : Int, amidF lo hi bx ax = (bg, am) → R .none [.ob x "Cuts" [("whole", .int (gi bx ax)), ("at_begin", .int (if restsF hi bx = [] then 1 else 0)), ("at_end", .int (if restsF lo bx = [] then 1 else 0)), ("step", .int (jointF (gi lo ax) (gi hi ax))), ("begin", .int bg), ("amid", .int am)], .d (prD a b), .d (tI bx), .d (.int (f : Int)), .d (.int (ax : Int))] := fun bg am e => by
    have : (cuF lo hi bx ax).fs = ([("whole", .int (gi bx ax)), ("at_begin", .int (if restsF hi bx = [] then 1 else 0)), ("at_end", .int (if restsF lo bx = [] then 1 else 0)), ("step", .int (jointF (gi lo ax) (gi hi ax))), ("begin", .int bg), ("amid", .int am)] : List (Str × PyData)) := by
      unfold Cu.fs cuF allF
      rw [e]
    rw [← this]
    exact hR
  simp -implicitDefEqProofs -dsimp [e1, e2, putD1, w_Cuts_init_s4, hx2, hx3]
  by_cases h0 : gi bx ax - gi lo ax - gi hi ax < 0
  · rw [if_pos h0]
    exact fin 0 0 (by unfold amidF; rw [if_pos (.inl h0)])
  · rw [if_neg h0]
    refine ask_of (sp := sp_rests) ⟨lo, bx, rfl, by omega, fun y hy => (lp y hy).1, ?_⟩
    (try simp -implicitDefEqProofs -dsimp)
    refine ask_of (sp := sp_rests) ⟨hi, bx, rfl, by omega, fun y hy => (hp y hy).1, ?_⟩
    have lr1 := rests_len lo bx
    have lr2 := rests_len hi bx
    (try simp -implicitDefEqProofs -dsimp)
    refine ⟨by omega, com_map (restsF lo bx ++ restsF hi bx) (fun (k : Nat) => .int (k : Int)) (by simp [lN]) (fun k => if k = ax then none else some (.int (k : Int))) (fun k hk acc K hK => ?_) ?_⟩
    · (try simp -implicitDefEqProofs -dsimp)
      by_cases e : k = ax
      · rw [if_pos e] at hK
        rw [if_pos (by omega)]
        simpa using hK
      · rw [if_neg e] at hK
        rw [if_neg (by omega)]
        exact hK
    · rw [fm_ne]
      generalize hW : (restsF lo bx ++ restsF hi bx).filter (fun k => !decide (k = ax)) = W
      have sW := shaped_nats W
      have eW := lN_nil W
      have oW : oddB lo hi bx ax = true ↔ W ≠ [] := by
        unfold oddB
        rw [← hW, Ne, List.filter_eq_nil_iff, List.any_eq_true]
        constructor
        · rintro ⟨k, m, q⟩ z
          exact z k m q
        · intro z
          apply Classical.byContradiction
          intro q
          exact z fun k m p => q ⟨k, m, p⟩
      have eq : W.map (fun (k : Nat) => PyData.int (k : Int)) = lN W := rfl
      rw [eq]
      simp -implicitDefEqProofs -dsimp [sW, shaped_nil, eW, putD1]
      by_cases hw : W = []
      · rw [if_pos hw]
        have od : oddB lo hi bx ax = false := by
          cases q : oddB lo hi bx ax with
          | false => rfl
          | true => exact absurd hw (oW.mp q)
        have am := fun (u : Int × Int) (q : (match timesF (gi lo ax) (gi hi ax) (gi bx ax - gi lo ax - gi hi ax) with
    | none => ((0 : Int), (0 : Int))
    | some t => if gi lo ax * t ≤ gi bx ax - gi lo ax - gi hi ax then (gi lo ax * (t + 1), 1 + (gi bx ax - gi lo ax - gi hi ax - gi lo ax * t) / jointF (gi lo ax) (gi hi ax)) else (0, 0)) = u) => show amidF lo hi bx ax = u by
          unfold amidF
          rw [if_neg (fun z => z.elim h0 fun z => by rw [od] at z; cases z)]
          exact q
        simp -implicitDefEqProofs -dsimp [w_Cuts_init_t1, hx2, hx3]
        refine ask_of (sp := sp_least_times) ⟨_, _, _, rfl, p1, p2, by unfold BIG at *; omega, by unfold BIG at *; omega, ?_⟩
        cases ht : timesF (gi lo ax) (gi hi ax) (gi bx ax - gi lo ax - gi hi ax) with
        | none =>
          simp -implicitDefEqProofs -dsimp [w_Cuts_init_s2, isNone]
          exact fin 0 0 (am _ (by rw [ht]))
        | some t =>
          obtain ⟨t0, t1⟩ := times_big p1 p2 ht
          have jl := joint_le p1.1 p2.1
          have cm : CMul (gi lo ax) t ∨ CMulW (gi lo ax) t := mul_big (by unfold BIG at *; omega) p1.2 (by unfold BIG at *; omega) t1
          simp -implicitDefEqProofs -dsimp [w_Cuts_init_s2, isNone, hx2]
          refine ⟨cm, ?_⟩
          by_cases hle : gi lo ax * t ≤ gi bx ax - gi lo ax - gi hi ax
          · rw [if_pos hle]
            obtain ⟨_, _, t2, _⟩ := times_some p1.1 p2.1 ht
            obtain ⟨g0, _⟩ := gcd_le (b := gi hi ax) p1.1
            have t3 : gi hi ax / gcdI (gi lo ax) (gi hi ax) ≤ gi hi ax := Int.ediv_le_self _ (by omega)
            have cm1 : CMul (gi lo ax) (t + 1) ∨ CMulW (gi lo ax) (t + 1) := mul_big (by unfold BIG at *; omega) p1.2 (by unfold BIG at *; omega) (by omega)
            have j8 : jointF (gi lo ax) (gi hi ax) ≤ 2 ^ 8000 := Int.le_trans jl.2 (Int.le_trans (Int.mul_le_mul p1.2 p2.2 (by omega) (by decide +kernel)) (by decide +kernel))
            simp -implicitDefEqProofs -dsimp [w_Cuts_init_1, hx2, putD1]
            refine ⟨cm1, cm, .int (jointF (gi lo ax) (gi hi ax)), by simp [List.lookup], ?_⟩
            (try simp -implicitDefEqProofs -dsimp)
            refine ⟨⟨by omega, log_abs (B := 9000) (by decide) (Int.lt_of_lt_of_le (show (-1 : Int) < _ by omega) (Int.le_refl _) |> fun z => Int.lt_of_le_of_lt (show -(2 : Int) ^ 9000 ≤ -1 by decide +kernel) z) (Int.lt_of_le_of_lt j8 (by decide +kernel))⟩, ?_⟩
            exact fin _ _ (am _ (by rw [ht]; simp only; rw [if_pos hle]))
          · rw [if_neg hle]
            exact fin 0 0 (am _ (by rw [ht]; simp only; rw [if_neg hle]))
      · rw [if_neg hw]
        exact fin 0 0 (by unfold amidF; rw [if_pos (.inr (oW.mpr hw))])
end TW
set_option Elab.async false
set_option linter.all false
set_option maxRecDepth 100000
set_option maxHeartbeats 4000000
namespace TW
open PySem PySem.Spec PyProof.Rows L2 DL

def cellsR : List Int → List (List Int)
  | [] => [[]]
  | s :: ss => (List.range s.toNat).flatMap fun k => (cellsR ss).map (((k : Nat) : Int) :: ·)
theorem cells_fold : ∀ (ss : List Int) (L : List (List Int)), ss.foldl cellsStep L = L.flatMap fun c => (cellsR ss).map (c ++ ·)
  | [], L => by
    show L = L.flatMap fun c => [c ++ []]
    induction L with
    | nil => rfl
    | cons x L ih => rw [List.flatMap_cons, ← ih, List.append_nil]; rfl
  | s :: ss, L => by
    rw [List.foldl_cons, cells_fold ss]
    unfold cellsStep
    rw [List.flatMap_assoc]
    congr 1
    funext c
    rw [List.flatMap_map, cellsR, List.map_flatMap]
    congr 1
    funext k
    rw [List.map_map]
    congr 1
    funext d
    simp
theorem cells_eq (ss : List Int) : cellsF ss = cellsR ss := by
  unfold cellsF
  rw [cells_fold]
  simp
/-- the order of cells -/
def lx : List Int → List Int → Prop
  | x :: xs, y :: ys => x < y ∨ (x = y ∧ lx xs ys)
  | _, _ => False
theorem cells_sorted : ∀ ss : List Int, (cellsR ss).Pairwise lx
  | [] => by simp [cellsR]
  | s :: ss => by
    rw [cellsR, List.pairwise_flatMap]
    refine ⟨fun k _ => ?_, ?_⟩
    · rw [List.pairwise_map]
      exact (cells_sorted ss).imp fun {a b} h => .inr ⟨rfl, h⟩
    · refine List.pairwise_lt_range.imp fun {k l} h x hx y hy => ?_
      obtain ⟨x, _, rfl⟩ := List.mem_map.mp hx
      obtain ⟨y, _, rfl⟩ := List.mem_map.mp hy
      exact .inl (by omega)
theorem lx_ge : ∀ {x y : List Int}, lx x y → x.length = y.length → (∀ i, i < x.length → gi y i ≤ gi x i) → False
  | [], _, h, _, _ => by simp [lx] at h
  | _ :: _, [], h, _, _ => by simp [lx] at h
  | x :: xs, y :: ys, h, hl, hg => by
    have h0 : y ≤ x := hg 0 (by simp)
    rcases h with h | ⟨rfl, h⟩
    · omega
    · exact lx_ge h (by simpa using hl) fun i hi => hg (i + 1) (by simp; omega)
theorem gi_extL : ∀ {x y : List Int}, x.length = y.length → (∀ i, i < x.length → gi x i = gi y i) → x = y
  | [], [], _, _ => rfl
  | [], _ :: _, h, _ => by simp at h
  | _ :: _, [], h, _ => by simp at h
  | x :: xs, y :: ys, hl, h => by
    have h0 : x = y := h 0 (by simp)
    have := gi_extL (x := xs) (y := ys) (by simpa using hl) fun i hi => h (i + 1) (by simp; omega)
    rw [h0, this]
theorem cells_nodup (ss : List Int) : (cellsF ss).Nodup := by
  rw [cells_eq]
  refine (cells_sorted ss).imp fun {a b} h e => ?_
  subst e
  exact lx_ge h rfl fun i _ => Int.le_refl _
def movF (x c : List Int) : List Int := List.zipWith (· + ·) x c
def covF (b c : List Int) : List (List Int) := (cellsF b).map fun x => movF x c
theorem gi_mov {x c : List Int} {i : Nat} (h : i < x.length) (h' : i < c.length) : gi (movF x c) i = gi x i + gi c i := by
  unfold gi movF
  rw [List.getElem?_zipWith, List.getElem?_eq_getElem h, List.getElem?_eq_getElem h']
  rfl
theorem mov_len {x c : List Int} (h : x.length = c.length) : (movF x c).length = c.length := by unfold movF; simp [h]
theorem mem_cov {b c d : List Int} (h : c.length = b.length) : d ∈ covF b c ↔ d.length = b.length ∧ ∀ i, i < b.length → gi c i ≤ gi d i ∧ gi d i < gi c i + gi b i := by
  unfold covF
  rw [List.mem_map]
  constructor
  · rintro ⟨x, hx, rfl⟩
    obtain ⟨h1, h2⟩ := (mem_cells b.length b rfl x).mp hx
    refine ⟨by rw [mov_len (by omega)]; exact h, fun i hi => ?_⟩
    have := h2 i hi
    rw [gi_mov (by omega) (by omega)]
    omega
  · rintro ⟨h1, h2⟩
    refine ⟨List.zipWith (· - ·) d c, (mem_cells b.length b rfl _).mpr ⟨by simp; omega, fun i hi => ?_⟩, ?_⟩
    · have := h2 i hi
      have e : gi (List.zipWith (· - ·) d c) i = gi d i - gi c i := by
        unfold gi
        rw [List.getElem?_zipWith, List.getElem?_eq_getElem (show i < d.length by omega), List.getElem?_eq_getElem (show i < c.length by omega)]
        rfl
      omega
    · refine gi_extL (by rw [mov_len (by simp; omega)]; omega) fun i hi => ?_
      rw [mov_len (by simp; omega)] at hi
      rw [gi_mov (by simp; omega) hi]
      have e : gi (List.zipWith (· - ·) d c) i = gi d i - gi c i := by
        unfold gi
        rw [List.getElem?_zipWith, List.getElem?_eq_getElem (show i < d.length by omega), List.getElem?_eq_getElem (show i < c.length by omega)]
        rfl
      omega
/-- a brick lies in a box -/
def Fits (b bx c : List Int) : Prop := c.length = bx.length ∧ ∀ i, i < bx.length → 0 ≤ gi c i ∧ gi c i + gi b i ≤ gi bx i
abbrev BrL : Type := List Int × List Int
structure LayW (ks : List (List Int)) (bx : List Int) (known : List (List Int)) (bs : List BrL) : Prop where
  fit : ∀ x ∈ bs, x.1 ∈ ks ∧ Fits x.1 bx x.2
  dis : bs.Pairwise fun x y => ∀ d, d ∈ covF x.1 x.2 → d ∉ covF y.1 y.2
  new : ∀ x ∈ bs, ∀ d ∈ covF x.1 x.2, d ∉ known
  all : ∀ d ∈ cellsF bx, d ∈ known ∨ ∃ x ∈ bs, d ∈ covF x.1 x.2
/-- kinds for a box -/
def Kin (ks : List (List Int)) (bx : List Int) : Prop := ∀ b ∈ ks, b.length = bx.length ∧ ∀ x ∈ b, 1 ≤ x
theorem fits_in {b bx c d : List Int} (hl : b.length = bx.length) (h : Fits b bx c) (hd : d ∈ covF b c) : d ∈ cellsF bx := by
  obtain ⟨h1, h2⟩ := (mem_cov (by have := h.1; omega)).mp hd
  exact (mem_cells bx.length bx rfl d).mpr ⟨by omega, fun i hi => by have := h2 i (by omega); have := h.2 i hi; omega⟩
theorem corner_in {b c : List Int} (hc : c.length = b.length) (h : ∀ x ∈ b, 1 ≤ x) : c ∈ covF b c := (mem_cov hc).mpr ⟨hc, fun i hi => by
  have := h _ (gi_mem hi)
  omega⟩
def sm (l : List Int) : Int := l.foldr (· + ·) 0
theorem floor_bd (x : Int) {b : Int} (hb : 1 ≤ b) : x / b * b ≤ x ∧ x < x / b * b + b := by
  have h1 := Int.mul_ediv_add_emod x b
  rw [Int.mul_comm] at h1
  have h2 := Int.emod_nonneg x (show b ≠ 0 by omega)
  have h3 := Int.emod_lt_of_pos x (show 0 < b by omega)
  omega
theorem floor_eq {x c b : Int} (hb : 1 ≤ b) (h0 : c / b * b = c) (h1 : c ≤ x) (h2 : x < c + b) : x / b * b = c := by
  have e : x / b = c / b := by
    have : x = (x - c) + b * (c / b) := by rw [Int.mul_comm]; omega
    rw [this, Int.add_mul_ediv_left _ _ (show b ≠ 0 by omega), Int.ediv_eq_zero_of_lt (by omega) (by omega)]
    omega
  rw [e, h0]
section
variable (p q : List Int) (ax : Nat) (z : Int)
def lowB (d : List Int) : Prop := gi d ax < z
instance (d : List Int) : Decidable (lowB ax z d) := by unfold lowB; infer_instance
end
end TW
set_option Elab.async false
set_option linter.all false
set_option maxRecDepth 100000
set_option maxHeartbeats 4000000
namespace TW
open PySem PySem.Spec PyProof.Rows L2 DL
inductive Row where
  | one (k : Nat)
  | two (ax i j : Nat)
def Row.d : Row → PyData
  | .one k => .tuple [.int (k : Int)]
  | .two ax i j => .tuple [.int (ax : Int), .int (i : Int), .int (j : Int)]
/-- kinds of n axes -/
structure Kd (n : Nat) (ks : List (List Int)) : Prop where
  l0 : 0 < ks.length
  l1 : ks.length ≤ 4
  n0 : 0 < n
  n1 : n ≤ 4
  len : ∀ k ∈ ks, k.length = n
  side : ∀ k ∈ ks, In (10 ^ 12) k
/-- boxes made so far -/
structure Bs (n : Nat) (bs : List (List Int)) : Prop where
  len : ∀ k ∈ bs, k.length = n
  side : ∀ k ∈ bs, In (10 ^ 400) k
def bxOf (bs : List (List Int)) (i : Nat) : List Int := bs.getD i []
def putF (one other : List Int) (ax : Nat) : List Int := one.set ax (gi one ax + gi other ax)
def agreeB (one other : List Int) (ax : Nat) : Bool := (List.range one.length).all fun k => decide (k = ax) || decide (gi one k = gi other k)
def boxR (ks bs : List (List Int)) : Row → List Int
  | .one k => bxOf ks k
  | .two ax i j => putF (bxOf bs i) (bxOf bs j) ax
def wordR (bs : List (List Int)) : Row → Option Str
  | .one _ => none
  | .two ax i j => if agreeB (bxOf bs i) (bxOf bs j) ax = false then some "sides" else if gi (bxOf bs i) ax + gi (bxOf bs j) ax > 10 ^ 12 then some "great" else none
def RowIn (kn n idx : Nat) : Row → Prop
  | .one k => k < kn
  | .two ax i j => ax < n ∧ i < idx ∧ j < idx
end TW
set_option Elab.async false
set_option linter.all false
set_option maxRecDepth 100000
set_option maxHeartbeats 4000000
namespace TW
open PySem PySem.Spec PyProof.Rows L2 DL
theorem Bs.at {n : Nat} {bs : List (List Int)} (h : Bs n bs) {i : Nat} (hi : i < bs.length) : bs[i]? = some (bxOf bs i) ∧ (bxOf bs i).length = n ∧ In (10 ^ 400) (bxOf bs i) := by
  have e : bxOf bs i = bs[i] := by unfold bxOf; rw [List.getD_eq_getElem?_getD, List.getElem?_eq_getElem hi]; rfl
  refine ⟨?_, ?_, ?_⟩
  · rw [e, List.getElem?_eq_getElem hi]
  · rw [e]; exact h.len _ (List.getElem_mem hi)
  · rw [e]; exact h.side _ (List.getElem_mem hi)
theorem Kd.at {n : Nat} {ks : List (List Int)} (h : Kd n ks) {i : Nat} (hi : i < ks.length) : ks[i]? = some (bxOf ks i) ∧ (bxOf ks i).length = n ∧ In (10 ^ 12) (bxOf ks i) := by
  have e : bxOf ks i = ks[i] := by unfold bxOf; rw [List.getD_eq_getElem?_getD, List.getElem?_eq_getElem hi]; rfl
  refine ⟨?_, ?_, ?_⟩
  · rw [e, List.getElem?_eq_getElem hi]
  · rw [e]; exact h.len _ (List.getElem_mem hi)
  · rw [e]; exact h.side _ (List.getElem_mem hi)
/-- boxes none of which is too great -/
structure B12 (n : Nat) (bs : List (List Int)) : Prop where
  len : ∀ k ∈ bs, k.length = n
  side : ∀ k ∈ bs, In (10 ^ 12) k
theorem B12.bs {n : Nat} {bs : List (List Int)} (h : B12 n bs) : Bs n bs := ⟨h.len, fun k hk x hx => by have := h.side k hk x hx; exact ⟨this.1, Int.le_trans this.2 (by decide)⟩⟩
theorem B12.at {n : Nat} {bs : List (List Int)} (h : B12 n bs) {i : Nat} (hi : i < bs.length) : bs[i]? = some (bxOf bs i) ∧ (bxOf bs i).length = n ∧ In (10 ^ 12) (bxOf bs i) := by
  obtain ⟨e1, e2, _⟩ := h.bs.at hi
  refine ⟨e1, e2, ?_⟩
  have e : bxOf bs i = bs[i] := by unfold bxOf; rw [List.getD_eq_getElem?_getD, List.getElem?_eq_getElem hi]; rfl
  rw [e]; exact h.side _ (List.getElem_mem hi)
theorem B12.row {n : Nat} {ks bs : List (List Int)} (hk : Kd n ks) (h : B12 n bs) {r : Row} (hr : RowIn ks.length n bs.length r) (hw : wordR bs r = none) : B12 n (bs ++ [boxR ks bs r]) ∧ (boxR ks bs r).length = n ∧ In (10 ^ 12) (boxR ks bs r) := by
  have one : (boxR ks bs r).length = n ∧ In (10 ^ 12) (boxR ks bs r) := by
    cases r with
    | one k => exact (hk.at (i := k) hr).2
    | two ax i j =>
      obtain ⟨hx, hi, hj⟩ := hr
      obtain ⟨_, l1, b1⟩ := h.at hi
      obtain ⟨_, l2, b2⟩ := h.at hj
      have hw : (if agreeB (bxOf bs i) (bxOf bs j) ax = false then some ("sides" : Str) else if gi (bxOf bs i) ax + gi (bxOf bs j) ax > 10 ^ 12 then some "great" else none) = none := hw
      split at hw
      · cases hw
      · split at hw
        · cases hw
        · rename_i g
          have c1 := b1 _ (gi_mem (show ax < (bxOf bs i).length by omega))
          have c2 := b2 _ (gi_mem (show ax < (bxOf bs j).length by omega))
          exact ⟨by show ((bxOf bs i).set ax _).length = n; rw [List.length_set]; exact l1, b1.set (by omega) (by omega)⟩
  refine ⟨⟨fun k hk => ?_, fun k hk => ?_⟩, one⟩
  · rcases List.mem_append.mp hk with q | q
    · exact h.len k q
    · rw [List.mem_singleton.mp q]; exact one.1
  · rcases List.mem_append.mp hk with q | q
    · exact h.side k q
    · rw [List.mem_singleton.mp q]; exact one.2
end TW
set_option Elab.async false
set_option linter.all false
set_option maxRecDepth 100000
set_option maxHeartbeats 4000000
namespace TW
open PySem PySem.Spec PyProof.Rows L2 DL
end TW
set_option Elab.async false
set_option linter.all false
set_option maxRecDepth 100000
set_option maxHeartbeats 4000000
namespace TW
open PySem PySem.Spec PyProof.Rows L2 DL
/-- how it goes on -/
structure Tail (w : Way) (c g : Int) : Prop where
  g1 : 1 ≤ g
  c0 : 0 ≤ c
  far : ∀ s, c < s → (w.fits s = true ↔ g ∣ s)
  at0 : c = 0 ∨ (1 ≤ c ∧ w.fits c = false ∧ g ∣ c)
  tl : tailF w = .tuple [.int (c + 1), .int g]
  gp : gapF w = if g = 1 then .int c else .none
end TW
set_option Elab.async false
set_option linter.all false
set_option maxRecDepth 100000
set_option maxHeartbeats 4000000
namespace TW
open PySem PySem.Spec PyProof.Rows L2 DL
end TW
set_option Elab.async false
set_option linter.all false
set_option maxRecDepth 100000
set_option maxHeartbeats 4000000
namespace TW
open PySem PySem.Spec PyProof.Rows L2 DL
end TW
set_option Elab.async false
set_option linter.all false
set_option maxRecDepth 100000
set_option maxHeartbeats 4000000
namespace TW
open PySem PySem.Spec PyProof.Rows L2 DL
end TW
set_option Elab.async false
set_option linter.all false
set_option maxRecDepth 100000
set_option maxHeartbeats 4000000
namespace TW
open PySem PySem.Spec PyProof.Rows L2 DL
end TW
set_option Elab.async false
set_option linter.all false
set_option maxRecDepth 100000
set_option maxHeartbeats 4000000
namespace TW
open PySem PySem.Spec PyProof.Rows L2 DL
theorem bx_mem {ks : List (List Int)} {k : Nat} (h : k < ks.length) : bxOf ks k ∈ ks := by
  unfold bxOf; rw [List.getD_eq_getElem?_getD, List.getElem?_eq_getElem h]; exact List.getElem_mem h
theorem shaped_tI (c : List Int) : SeqAt.shaped (tI c) = true := shaped_intsT c
end TW
set_option Elab.async false
set_option linter.all false
set_option maxRecDepth 100000
set_option maxHeartbeats 4000000
namespace TW
open PySem PySem.Spec PyProof.Rows L2 DL
def atK (k : Nat) (c : List Int) : PyData := .tuple [.int (k : Int), tI c]
end TW
set_option Elab.async false
set_option linter.all false
set_option maxRecDepth 100000
set_option maxHeartbeats 4000000
namespace TW
open PySem PySem.Spec PyProof.Rows L2 DL
end TW
set_option Elab.async false
set_option linter.all false
set_option maxRecDepth 100000
set_option maxHeartbeats 4000000
namespace TW
open PySem PySem.Spec PyProof.Rows L2 DL
/-- one box after another -/
def boxesR (ks : List (List Int)) : List (List Int) → List Row → List (List Int)
  | bs, [] => bs
  | bs, r :: rs => boxesR ks (bs ++ [boxR ks bs r]) rs
def RowGood (kn n : Nat) (bs : List (List Int)) (r : Row) : Prop := RowIn kn n bs.length r ∧ ∀ ax i j, r = .two ax i j → agreeB (bxOf bs i) (bxOf bs j) ax = true
def ValidR (ks : List (List Int)) (n : Nat) : List (List Int) → List Row → Prop
  | _, [] => True
  | bs, r :: rs => RowGood ks.length n bs r ∧ ValidR ks n (bs ++ [boxR ks bs r]) rs
end TW
set_option Elab.async false
set_option linter.all false
set_option maxRecDepth 100000
set_option maxHeartbeats 4000000
namespace TW
open PySem PySem.Spec PyProof.Rows L2 DL
theorem valid_app (ks : List (List Int)) (n : Nat) : ∀ (xs ys : List Row) (bs : List (List Int)), ValidR ks n bs (xs ++ ys) ↔ ValidR ks n bs xs ∧ ValidR ks n (boxesR ks bs xs) ys
  | [], _, _ => ⟨fun h => ⟨trivial, h⟩, fun h => h.2⟩
  | x :: xs, ys, bs => by
    have := valid_app ks n xs ys (bs ++ [boxR ks bs x])
    show (RowGood ks.length n bs x ∧ ValidR ks n _ (xs ++ ys)) ↔ (RowGood ks.length n bs x ∧ ValidR ks n _ xs) ∧ ValidR ks n (boxesR ks (bs ++ [boxR ks bs x]) xs) ys
    rw [this, and_assoc]
theorem boxesR_ext (ks : List (List Int)) : ∀ (xs : List Row) (bs : List (List Int)), ∃ t, boxesR ks bs xs = bs ++ t ∧ t.length = xs.length
  | [], bs => ⟨[], by simp [boxesR], rfl⟩
  | x :: xs, bs => by
    obtain ⟨t, e, l⟩ := boxesR_ext ks xs (bs ++ [boxR ks bs x])
    exact ⟨boxR ks bs x :: t, by show boxesR ks (bs ++ [boxR ks bs x]) xs = _; rw [e]; simp, by simp [l]⟩
theorem boxesR_len (ks : List (List Int)) (xs : List Row) (bs : List (List Int)) : (boxesR ks bs xs).length = bs.length + xs.length := by
  obtain ⟨t, e, l⟩ := boxesR_ext ks xs bs
  rw [e, List.length_append, l]
theorem valid_take {ks : List (List Int)} {n : Nat} {rs : List Row} (h : ValidR ks n [] rs) (m : Nat) : ValidR ks n [] (rs.take m) := by
  have := (valid_app ks n (rs.take m) (rs.drop m) []).mp (by rw [List.take_append_drop]; exact h)
  exact this.1
/-- boxes with sides up to a bound -/
structure Bm (n : Nat) (m : Int) (bs : List (List Int)) : Prop where
  ok : ∀ b ∈ bs, b.length = n ∧ In m b
theorem Bm.at {n : Nat} {m : Int} {bs : List (List Int)} (h : Bm n m bs) {i : Nat} (hi : i < bs.length) : bs[i]? = some (bxOf bs i) ∧ (bxOf bs i).length = n ∧ In m (bxOf bs i) := by
  have e : bxOf bs i = bs[i] := by unfold bxOf; rw [List.getD_eq_getElem?_getD, List.getElem?_eq_getElem hi]; rfl
  exact ⟨by rw [e, List.getElem?_eq_getElem hi], by rw [e]; exact h.ok _ (List.getElem_mem hi)⟩
theorem Bm.snoc {n : Nat} {m : Int} {bs : List (List Int)} (h : Bm n m bs) {b : List Int} (l : b.length = n) (i : In m b) : Bm n m (bs ++ [b]) := ⟨fun x hx => by
  rcases List.mem_append.mp hx with q | q
  · exact h.ok x q
  · rw [List.mem_singleton.mp q]; exact ⟨l, i⟩⟩
theorem In.small {m : Int} {p : List Int} (h : In m p) (hm : m ≤ 10 ^ 12) : ∀ x ∈ p, -(2 ^ 64) < x ∧ x < 2 ^ 64 := fun x hx => by have := h x hx; omega
end TW
set_option Elab.async false
set_option linter.all false
set_option maxRecDepth 100000
set_option maxHeartbeats 4000000
namespace TW
open PySem PySem.Spec PyProof.Rows L2 DL
/-- how many rows are gone through -/
def wtR (ws : List Nat) : Row → Nat
  | .one _ => 1
  | .two _ i j => ws.getD i 0 + ws.getD j 0 + 1
def wtsR : List Nat → List Row → List Nat
  | ws, [] => ws
  | ws, r :: rs => wtsR (ws ++ [wtR ws r]) rs
def plD (p : Nat × List Int) : PyData := .tuple [.int (p.1 : Int), tI p.2]
abbrev Pl (n : Nat) (ks : List (List Int)) (rs : List Row) : Prop := Kd n ks ∧ ValidR ks n [] rs ∧ 0 < rs.length ∧ rs.length ≤ 1100
end TW
set_option Elab.async false
set_option linter.all false
set_option maxRecDepth 100000
set_option maxHeartbeats 4000000
namespace TW
open PySem PySem.Spec PyProof.Rows L2 DL
/-- boxes are not beyond all bounds -/
theorem boxes_bd {ks : List (List Int)} {n : Nat} (hk : Kd n ks) : ∀ (rs : List Row) (bs : List (List Int)) (m : Int), 10 ^ 12 ≤ m → (∀ b ∈ bs, b.length = n ∧ In m b) → ValidR ks n bs rs → ∀ b ∈ boxesR ks bs rs, b.length = n ∧ In (m * 2 ^ rs.length) b
  | [], bs, m, _, h, _, b, hb => by
    rw [List.length_nil, Int.pow_zero, Int.mul_one]; exact h b hb
  | r :: rs, bs, m, hm, h, v, b, hb => by
    have e : m * 2 ^ (r :: rs).length = (2 * m) * 2 ^ rs.length := by
      rw [List.length_cons, Int.pow_succ, Int.mul_comm (2 ^ rs.length) 2, ← Int.mul_assoc, Int.mul_comm m 2]
    rw [e]
    have bm : Bm n m bs := ⟨h⟩
    refine boxes_bd hk rs (bs ++ [boxR ks bs r]) (2 * m) (by omega) (fun x hx => ?_) v.2 b hb
    rcases List.mem_append.mp hx with q | q
    · obtain ⟨h1, h2⟩ := h x q
      exact ⟨h1, fun y hy => by have := h2 y hy; omega⟩
    · rw [List.mem_singleton.mp q]
      have g := v.1.1
      cases r with
      | one k =>
        obtain ⟨_, l1, b1⟩ := hk.at (i := k) g
        exact ⟨l1, fun y hy => by have := b1 y hy; omega⟩
      | two ax i j =>
        obtain ⟨hx, hi, hj⟩ := g
        obtain ⟨_, l1, b1⟩ := bm.at hi
        obtain ⟨_, l2, b2⟩ := bm.at hj
        have c1 := b1 _ (gi_mem (show ax < (bxOf bs i).length by omega))
        have c2 := b2 _ (gi_mem (show ax < (bxOf bs j).length by omega))
        exact ⟨by show ((bxOf bs i).set ax _).length = n; rw [List.length_set]; exact l1, In.set (fun y hy => by have := b1 y hy; omega) (by omega) (by omega)⟩
theorem Pl.bs {n : Nat} {ks : List (List Int)} {rs : List Row} (h : Pl n ks rs) (m : Nat) : Bs n (boxesR ks [] (rs.take m)) := by
  obtain ⟨hk, hv, _, hl⟩ := h
  have q := boxes_bd hk (rs.take m) [] (10 ^ 12) (Int.le_refl _) (by simp) (valid_take hv m)
  have le : (10 ^ 12 : Int) * 2 ^ (rs.take m).length ≤ 10 ^ 400 := by
    have : (rs.take m).length ≤ 1100 := by rw [List.length_take]; omega
    have p : (2 : Int) ^ (rs.take m).length ≤ 2 ^ 1100 := by
      have q := Nat.pow_le_pow_right (show 0 < 2 by decide) this
      have q2 : ((2 ^ (rs.take m).length : Nat) : Int) ≤ ((2 ^ 1100 : Nat) : Int) := Int.ofNat_le.mpr q
      rw [Int.natCast_pow, Int.natCast_pow] at q2
      exact q2
    have p2 : (10 ^ 12 : Int) * 2 ^ 1100 ≤ 10 ^ 400 := by decide +kernel
    have := Int.mul_le_mul_of_nonneg_left p (show (0 : Int) ≤ 10 ^ 12 by decide)
    exact Int.le_trans this p2
  exact ⟨fun b hb => (q b hb).1, fun b hb x hx => by have := (q b hb).2 x hx; exact ⟨this.1, Int.le_trans this.2 le⟩⟩
theorem take_snoc {rs : List Row} {d : Nat} (h : d < rs.length) : rs.take (d + 1) = rs.take d ++ [rs.getD d (.one 0)] := by
  rw [List.take_succ, List.getElem?_eq_getElem h, List.getD_eq_getElem?_getD, List.getElem?_eq_getElem h]; rfl
theorem Pl.row {n : Nat} {ks : List (List Int)} {rs : List Row} (h : Pl n ks rs) {d : Nat} (hd : d < rs.length) : RowGood ks.length n (boxesR ks [] (rs.take d)) (rs.getD d (.one 0)) ∧ (boxesR ks [] (rs.take d)).length = d := by
  have v := valid_take h.2.1 (d + 1)
  rw [take_snoc hd, valid_app] at v
  refine ⟨v.2.1, ?_⟩
  rw [boxesR_len, List.length_take]; simp; omega
theorem wtsR_app : ∀ (xs ys : List Row) (ws : List Nat), wtsR ws (xs ++ ys) = wtsR (wtsR ws xs) ys
  | [], _, _ => rfl
  | x :: xs, ys, ws => wtsR_app xs ys _
theorem wtsR_ext : ∀ (xs : List Row) (ws : List Nat), ∃ t, wtsR ws xs = ws ++ t ∧ t.length = xs.length
  | [], ws => ⟨[], by simp [wtsR], rfl⟩
  | x :: xs, ws => by
    obtain ⟨t, e, l⟩ := wtsR_ext xs (ws ++ [wtR ws x])
    exact ⟨wtR ws x :: t, by show wtsR (ws ++ [wtR ws x]) xs = _; rw [e]; simp, by simp [l]⟩
/-- the weight of a row is told by those ahead -/
theorem wts_at {rs : List Row} {d : Nat} (h : d < rs.length) : (wtsR [] rs).getD d 0 = wtR (wtsR [] (rs.take d)) (rs.getD d (.one 0)) ∧ ∀ i, i < d → (wtsR [] (rs.take d)).getD i 0 = (wtsR [] rs).getD i 0 := by
  have e := wtsR_app (rs.take (d + 1)) (rs.drop (d + 1)) []
  rw [List.take_append_drop, take_snoc h, wtsR_app] at e
  obtain ⟨t0, e0, l0⟩ := wtsR_ext (rs.take d) []
  have l0 : t0.length = d := by rw [l0, List.length_take]; omega
  obtain ⟨t, e2, _⟩ := wtsR_ext (rs.drop (d + 1)) (wtsR (wtsR [] (rs.take d)) [rs.getD d (.one 0)])
  rw [e2] at e
  have e3 : wtsR (wtsR [] (rs.take d)) [rs.getD d (.one 0)] = wtsR [] (rs.take d) ++ [wtR (wtsR [] (rs.take d)) (rs.getD d (.one 0))] := rfl
  rw [e3] at e
  have ll : (wtsR [] (rs.take d)).length = d := by rw [e0]; simpa using l0
  refine ⟨?_, fun i hi => ?_⟩
  · rw [e, List.getD_eq_getElem?_getD, List.append_assoc, List.getElem?_append_right (by omega), ll, Nat.sub_self]; rfl
  · rw [e, List.getD_eq_getElem?_getD, List.getD_eq_getElem?_getD, List.append_assoc, List.getElem?_append_left (by omega)]
/-- what may wait -/
structure StOk (n : Nat) (rs : List Row) (st : List (Nat × List Int)) : Prop where
  ix : ∀ p ∈ st, p.1 < rs.length ∧ p.2.length = n
theorem srt_pl (L : List (Nat × List Int)) : W.AllAlike (L.map plD) ∧ W.Sortable (L.map plD) ∧ ∀ d ∈ L.map plD, d.depth ≤ 50 := by
  refine ⟨W.AllAlike.of fun p q => ?_, .inl fun d hd => ?_, fun d hd => ?_⟩
  · show W.alike (.tuple [.int _, .tuple (p.2.map .int)]) (.tuple [.int _, .tuple (q.2.map .int)]) = true
    simp [W.alike, W.alikeAll, W.alike_ints]
  · obtain ⟨p, hp, rfl⟩ := List.mem_map.mp hd
    exact ⟨_, _, rfl⟩
  · obtain ⟨p, hp, rfl⟩ := List.mem_map.mp hd
    have := W.depth_ints p.2
    show PyData.depth (.tuple [.int _, .tuple (p.2.map .int)]) ≤ 50
    simp [PyData.depth, PyData.depthAll, this]
/-- the row at an index and the boxes it stands on -/
theorem Pl.two {n : Nat} {ks : List (List Int)} {rs : List Row} (h : Pl n ks rs) {d ax i j : Nat} (hd : d < rs.length) (e : rs.getD d (.one 0) = .two ax i j) : ax < n ∧ i < d ∧ j < d ∧ (wtsR [] rs).getD d 0 = (wtsR [] rs).getD i 0 + (wtsR [] rs).getD j 0 + 1 := by
  obtain ⟨⟨g, _⟩, lb⟩ := h.row hd
  rw [e, lb] at g
  obtain ⟨g1, g2, g3⟩ := g
  obtain ⟨w1, w2⟩ := wts_at hd
  refine ⟨g1, g2, g3, ?_⟩
  rw [w1, e]
  show _ + _ + 1 = _
  rw [w2 i g2, w2 j g3]
theorem Pl.all {n : Nat} {ks : List (List Int)} {rs : List Row} (h : Pl n ks rs) : Bs n (boxesR ks [] rs) ∧ (boxesR ks [] rs).length = rs.length := by
  have := h.bs rs.length
  rw [List.take_length] at this
  exact ⟨this, by rw [boxesR_len]; simp⟩
end TW
set_option Elab.async false
set_option linter.all false
set_option maxRecDepth 100000
set_option maxHeartbeats 4000000
namespace TW
open PySem PySem.Spec PyProof.Rows L2 DL
def quoF (sides brick : List Int) : List Int := List.zipWith (fun s o => s / o) sides brick
def rowF (brick begin cell : List Int) : List Int := (List.range brick.length).map fun i => gi begin i + gi cell i * gi brick i
abbrev flD (fl : List (Nat × List Int)) : List PyData := fl.map fun p => atK p.1 p.2
/-- a filling -/
structure FL (ks : List (List Int)) (bx : List Int) (fl : List (Nat × List Int)) : Prop where
  fit : ∀ p ∈ fl, p.1 < ks.length ∧ Fits (bxOf ks p.1) bx p.2
  asc : fl.Pairwise fun p q => W.dataLt (atK p.1 p.2) (atK q.1 q.2) = true
  dis : fl.Pairwise fun p q => ∀ d, d ∈ covF (bxOf ks p.1) p.2 → d ∉ covF (bxOf ks q.1) q.2
  all : ∀ d ∈ cellsF bx, ∃ p ∈ fl, d ∈ covF (bxOf ks p.1) p.2
end TW
set_option Elab.async false
set_option linter.all false
set_option maxRecDepth 100000
set_option maxHeartbeats 4000000
namespace TW
open PySem PySem.Spec PyProof.Rows L2 DL
theorem alike_ints : ∀ {a b : List Int}, a.length = b.length → W.alikeAll (lI a) (lI b) = true
  | [], [], _ => by simp [W.alikeAll]
  | [], _ :: _, h => by simp at h
  | _ :: _, [], h => by simp at h
  | x :: a, y :: b, h => by
    have := alike_ints (a := a) (b := b) (by simpa using h)
    simp only [lI, List.map_cons, W.alikeAll, W.alike, Bool.true_and] at this ⊢
    exact this
theorem vol_le0 : ∀ {a b : List Int}, a.length = b.length → (∀ i, i < b.length → 0 ≤ gi a i ∧ gi a i ≤ gi b i) → 0 ≤ vol a ∧ vol a ≤ vol b
  | [], [], _, _ => by decide
  | [], _ :: _, h, _ => by simp at h
  | _ :: _, [], h, _ => by simp at h
  | x :: a, y :: b, hl, h => by
    obtain ⟨v1, v2⟩ := vol_le0 (a := a) (b := b) (by simpa using hl) fun i hi => h (i + 1) (by simp; omega)
    have h0 : 0 ≤ x ∧ x ≤ y := h 0 (by simp)
    rw [vol_cons, vol_cons]
    have m1 := Int.mul_le_mul h0.2 v2 (by omega) (by omega)
    have m2 := Int.mul_nonneg h0.1 v1
    omega
theorem gi_quo {sides brick : List Int} {i : Nat} (hs : i < sides.length) (hb : i < brick.length) : gi (quoF sides brick) i = gi sides i / gi brick i := by
  unfold gi quoF
  rw [List.getElem?_zipWith, List.getElem?_eq_getElem hs, List.getElem?_eq_getElem hb]
  rfl
theorem vol_side1 : ∀ {bx : List Int}, (∀ x ∈ bx, 1 ≤ x) → ∀ {i : Nat}, i < bx.length → vol bx ≤ 400 → gi bx i ≤ 400
  | [], _, i, h, _ => by simp at h
  | y :: bx, hb, i, hi, hv => by
    have y1 := hb y (by simp)
    have v1 := vol_pos (ns := bx) fun z hz => hb z (by simp [hz])
    rw [vol_cons] at hv
    cases i with
    | zero =>
      show y ≤ 400
      have := Int.mul_le_mul_of_nonneg_left v1 (show 0 ≤ y by omega)
      omega
    | succ i =>
      have := Int.mul_le_mul_of_nonneg_right y1 (show 0 ≤ vol bx by omega)
      show gi bx i ≤ 400
      exact vol_side1 (bx := bx) (i := i) (fun z hz => hb z (by simp [hz])) (by simpa using hi) (by omega)
theorem gi_row {b begin c : List Int} {i : Nat} (h : i < b.length) : gi (rowF b begin c) i = gi begin i + gi c i * gi b i := by
  unfold rowF
  exact gi_range h
theorem row_fit {b begin sides c : List Int} (l1 : sides.length = b.length) (hb : ∀ x ∈ b, 1 ≤ x) (hc : c ∈ cellsF (quoF sides b)) {i : Nat} (hi : i < b.length) :
    gi begin i ≤ gi (rowF b begin c) i ∧ gi (rowF b begin c) i + gi b i ≤ gi begin i + gi sides i := by
  have lq : (quoF sides b).length = b.length := by unfold quoF; simp [l1]
  obtain ⟨_, m⟩ := (mem_cells _ _ rfl c).mp hc
  have q := m i (by omega)
  rw [gi_quo (by omega) hi] at q
  have b1 := hb _ (gi_mem hi)
  rw [gi_row hi]
  have f := (floor_bd (gi sides i) b1).1
  have p1 := Int.mul_le_mul_of_nonneg_right (show gi c i + 1 ≤ gi sides i / gi b i by omega) (show 0 ≤ gi b i by omega)
  have p2 := Int.mul_nonneg q.1 (show 0 ≤ gi b i by omega)
  rw [Int.add_mul] at p1
  omega
theorem row_len {b begin c : List Int} : (rowF b begin c).length = b.length := by simp [rowF]
theorem row_cov {b begin sides d : List Int} (l1 : sides.length = b.length) (hb : ∀ x ∈ b, 1 ≤ x) (dv : ∀ i, i < b.length → gi b i ∣ gi sides i) (ld : d.length = b.length) (hd : ∀ i, i < b.length → gi begin i ≤ gi d i ∧ gi d i < gi begin i + gi sides i) :
    ∃ c ∈ cellsF (quoF sides b), d ∈ covF b (rowF b begin c) := by
  have lq : (quoF sides b).length = b.length := by unfold quoF; simp [l1]
  have g : ∀ i, i < b.length → gi ((List.range b.length).map fun i => (gi d i - gi begin i) / gi b i) i = (gi d i - gi begin i) / gi b i := fun i hi => gi_range hi
  refine ⟨(List.range b.length).map fun i => (gi d i - gi begin i) / gi b i, (mem_cells _ _ rfl _).mpr ⟨by simp [lq], fun i hi => ?_⟩, (mem_cov (by rw [row_len])).mpr ⟨ld, fun i hi => ?_⟩⟩
  · have hi : i < b.length := by omega
    have b1 := hb _ (gi_mem hi)
    have h := hd i hi
    rw [g i hi, gi_quo (by omega) hi]
    refine ⟨Int.ediv_nonneg (by omega) (by omega), ?_⟩
    obtain ⟨k, hk⟩ := dv i hi
    rw [hk, Int.mul_ediv_cancel_left _ (by omega)]
    refine Int.ediv_lt_of_lt_mul (by omega) ?_
    rw [Int.mul_comm k]
    omega
  · have b1 := hb _ (gi_mem hi)
    rw [gi_row hi, g i hi]
    have f := floor_bd (gi d i - gi begin i) b1
    omega
theorem row_uniq {b begin c c' d : List Int} (hb : ∀ x ∈ b, 1 ≤ x) (l1 : c.length = b.length) (l2 : c'.length = b.length) (h1 : d ∈ covF b (rowF b begin c)) (h2 : d ∈ covF b (rowF b begin c')) : c = c' := by
  obtain ⟨_, m1⟩ := (mem_cov (by rw [row_len])).mp h1
  obtain ⟨_, m2⟩ := (mem_cov (by rw [row_len])).mp h2
  refine gi_ext (by omega) fun i hi => ?_
  have hi : i < b.length := by omega
  have b1 := hb _ (gi_mem hi)
  have a1 := m1 i hi
  have a2 := m2 i hi
  rw [gi_row hi] at a1 a2
  have e1 := floor_eq (x := gi d i - gi begin i) (c := gi c i * gi b i) b1 (by rw [Int.mul_ediv_cancel _ (by omega)]) (by omega) (by omega)
  have e2 := floor_eq (x := gi d i - gi begin i) (c := gi c' i * gi b i) b1 (by rw [Int.mul_ediv_cancel _ (by omega)]) (by omega) (by omega)
  exact Int.eq_of_mul_eq_mul_right (by omega) (e1.symm.trans e2)
/-- both parts of a box -/
def flRows (k : Nat) (b begin sides : List Int) : List (Nat × List Int) := (cellsF (quoF sides b)).map fun c => (k, rowF b begin c)
theorem rows_dis {k : Nat} {b begin sides : List Int} (ks : List (List Int)) (hk : bxOf ks k = b) (l1 : sides.length = b.length) (hb : ∀ x ∈ b, 1 ≤ x) :
    (flRows k b begin sides).Pairwise fun p q => ∀ d, d ∈ covF (bxOf ks p.1) p.2 → d ∉ covF (bxOf ks q.1) q.2 := by
  unfold flRows
  rw [List.pairwise_map]
  have lq : (quoF sides b).length = b.length := by unfold quoF; simp [l1]
  have n := cells_nodup (quoF sides b)
  have al := cells_lens _ (quoF sides b) rfl
  unfold List.Nodup at n
  revert n al
  generalize cellsF (quoF sides b) = L
  intro n al
  refine n.imp_of_mem fun {x y} mx my hne d h1 h2 => hne ?_
  rw [hk] at h1 h2
  exact row_uniq hb (by rw [al x mx, lq]) (by rw [al y my, lq]) h1 h2
theorem gi_rep0 {n i : Nat} (h : i < n) : gi (List.replicate n 0) i = 0 := by
  unfold gi
  rw [List.getElem?_replicate, if_pos h]; rfl
end TW
set_option Elab.async false
set_option linter.all false
set_option maxRecDepth 100000
set_option maxHeartbeats 4000000
namespace TW
open PySem PySem.Spec PyProof.Rows L2 DL
abbrev Pl1 := Nat × List Int
/-- a filling in any order -/
structure FL0 (ks : List (List Int)) (bx : List Int) (fl : List Pl1) : Prop where
  fit : ∀ p ∈ fl, p.1 < ks.length ∧ Fits (bxOf ks p.1) bx p.2
  dis : fl.Pairwise fun p q => ∀ d, d ∈ covF (bxOf ks p.1) p.2 → d ∉ covF (bxOf ks q.1) q.2
  all : ∀ d ∈ cellsF bx, ∃ p ∈ fl, d ∈ covF (bxOf ks p.1) p.2
theorem FL.to0 {ks : List (List Int)} {bx : List Int} {fl : List Pl1} (h : FL ks bx fl) : FL0 ks bx fl := ⟨h.fit, h.dis, h.all⟩
theorem kin_at {ks : List (List Int)} {bx : List Int} (hk : Kin ks bx) {k : Nat} (h : k < ks.length) : (bxOf ks k).length = bx.length ∧ ∀ x ∈ bxOf ks k, 1 ≤ x := hk _ (bx_mem h)
theorem FL0.corner {ks : List (List Int)} {bx : List Int} {fl : List Pl1} (h : FL0 ks bx fl) (hk : Kin ks bx) {p : Pl1} (hp : p ∈ fl) : p.2 ∈ covF (bxOf ks p.1) p.2 := by
  obtain ⟨f1, f2⟩ := h.fit p hp
  obtain ⟨k1, k2⟩ := kin_at hk f1
  exact corner_in (by rw [f2.1, k1]) k2
theorem atK_inj {j k : Nat} {a b : List Int} (e : atK j a = atK k b) : j = k ∧ a = b := by
  unfold atK at e
  simp only [PyData.tuple.injEq, List.cons.injEq, PyData.int.injEq, and_true, tI] at e
  obtain ⟨e1, e2⟩ := e
  have e2 : lI a = lI b := e2
  have : a = b := by
    refine (List.map_inj_right ?_).mp e2
    intro a b h
    exact PyData.int.inj h
  exact ⟨by omega, this⟩
theorem flD_inj : ∀ {a b : List Pl1}, flD a = flD b → a = b
  | [], [], _ => rfl
  | [], _ :: _, h => by simp [flD] at h
  | _ :: _, [], h => by simp [flD] at h
  | x :: a, y :: b, h => by
    have h : atK x.1 x.2 :: flD a = atK y.1 y.2 :: flD b := h
    obtain ⟨h1, h2⟩ := List.cons.inj h
    obtain ⟨e1, e2⟩ := atK_inj h1
    rw [flD_inj h2, Prod.ext e1 e2]
theorem lt_le {a b : PyData} (h : W.dataLt a b = true) : leD a b = true := by
  show (!W.dataLt b a) = true
  cases h2 : W.dataLt b a with
  | false => rfl
  | true =>
    have := lex_trans (O := itemOrd) _ _ _ h h2
    rw [lex_irrefl] at this; cases this
/-- sorted once is sorted -/
theorem FL.sorted {ks : List (List Int)} {bx : List Int} {fl : List Pl1} (h : FL ks bx fl) : sortD (flD fl) = flD fl := by
  unfold sortD
  refine List.mergeSort_of_pairwise ?_
  unfold flD
  rw [List.pairwise_map]
  exact h.asc.imp fun {a b} h => lt_le h
theorem FL.unique {ks ks' : List (List Int)} {bx bx' : List Int} {fl fl' : List Pl1} (h : FL ks bx fl) (h' : FL ks' bx' fl') (pm : fl.Perm fl') : fl = fl' := by
  refine flD_inj ?_
  rw [← h.sorted, ← h'.sorted]
  exact sort_perm (srt_pl fl).1 (pm.map _)
theorem nodup_le : ∀ {l m : List (List Int)}, l.Nodup → (∀ x ∈ l, x ∈ m) → l.length ≤ m.length
  | [], m, _, _ => by simp
  | x :: l, m, hn, h => by
    obtain ⟨n1, n2⟩ := List.nodup_cons.mp hn
    have hx := h x (by simp)
    have := nodup_le (l := l) (m := m.erase x) n2 fun y hy => by
      have ne : y ≠ x := fun e => n1 (by rw [← e]; exact hy)
      exact (List.mem_erase_of_ne ne).mpr (h y (by simp [hy]))
    rw [List.length_erase_of_mem hx] at this
    have := List.length_pos_of_mem hx
    simp; omega
theorem FL0.len {ks : List (List Int)} {bx : List Int} {fl : List Pl1} (h : FL0 ks bx fl) (hk : Kin ks bx) : fl.length ≤ (cellsF bx).length := by
  have := nodup_le (l := fl.map (·.2)) (m := cellsF bx) (by
    unfold List.Nodup
    rw [List.pairwise_map]
    refine h.dis.imp_of_mem fun {x y} mx my hd e => ?_
    have c1 := h.corner hk mx
    have c2 := h.corner hk my
    rw [← e] at c2
    exact hd _ c1 (by rw [← e]; exact c2)) fun c hc => by
    obtain ⟨p, hp, rfl⟩ := List.mem_map.mp hc
    obtain ⟨f1, f2⟩ := h.fit p hp
    exact fits_in (kin_at hk f1).1 f2 (h.corner hk hp)
  rwa [List.length_map] at this
theorem FL0.lenV {ks : List (List Int)} {bx : List Int} {fl : List Pl1} (h : FL0 ks bx fl) (hk : Kin ks bx) (hb : ∀ x ∈ bx, 0 ≤ x) : (fl.length : Int) ≤ vol bx := by
  have := h.len hk
  have := cells_len _ bx rfl hb
  omega
def movA (ax : Nat) (z : Int) (p : Pl1) : Pl1 := (p.1, p.2.set ax (gi p.2 ax + z))
theorem cov_movA {b c d : List Int} {ax : Nat} {z : Int} (h : c.length = b.length) (hx : ax < b.length) : d ∈ covF b (c.set ax (gi c ax + z)) ↔ d.length = b.length ∧ d.set ax (gi d ax - z) ∈ covF b c := by
  rw [mem_cov (by simpa using h), mem_cov h]
  constructor
  · rintro ⟨h1, h2⟩
    refine ⟨h1, by simpa using h1, fun i hi => ?_⟩
    have := h2 i hi
    rw [gi_set (by omega)] at this ⊢
    split at this
    · rename_i e; rw [if_pos e]; subst e; omega
    · rename_i e; rw [if_neg e]; omega
  · rintro ⟨h1, _, h2⟩
    refine ⟨h1, fun i hi => ?_⟩
    have := h2 i hi
    rw [gi_set (by omega)] at this ⊢
    split at this
    · rename_i e; rw [if_pos e]; subst e; omega
    · rename_i e; rw [if_neg e]; omega
theorem gi_set_eq {l : List Int} {ax : Nat} {y : Int} (h : ax < l.length) : gi (l.set ax y) ax = y := by rw [gi_set h, if_pos rfl]
theorem gi_set_ne {l : List Int} {ax i : Nat} {y : Int} (h : i < l.length) (hn : i ≠ ax) : gi (l.set ax y) i = gi l i := by rw [gi_set h, if_neg hn]
/-- two filled boxes behind one another -/
theorem FL0.put {ks : List (List Int)} {bx : List Int} {ax : Nat} {z m : Int} {f1 f2 : List Pl1} (hk : Kin ks bx) (hx : ax < bx.length) (z0 : 0 ≤ z) (m0 : 0 ≤ m) (h1 : FL0 ks (bx.set ax z) f1) (h2 : FL0 ks (bx.set ax m) f2) :
    FL0 ks (bx.set ax (z + m)) (f1 ++ f2.map (movA ax z)) := by
  have k1 := fun {k} h => kin_at (k := k) hk h
  refine ⟨fun p hp => ?_, List.pairwise_append.mpr ⟨h1.dis, ?_, fun x hxm y hym d d1 d2 => ?_⟩, fun d hd => ?_⟩
  · rcases List.mem_append.mp hp with q | q
    · obtain ⟨a, b, c⟩ := h1.fit p q
      refine ⟨a, by simpa using b, fun i hi => ?_⟩
      have hi2 : i < bx.length := by simpa using hi
      have := c i (by simpa using hi)
      by_cases e : i = ax
      · subst e
        rw [gi_set_eq hi2] at this ⊢
        omega
      · rw [gi_set_ne hi2 e] at this ⊢
        omega
    · obtain ⟨r, hr, rfl⟩ := List.mem_map.mp q
      obtain ⟨a, b, c⟩ := h2.fit r hr
      have bl : r.2.length = bx.length := by simpa using b
      refine ⟨a, by simpa [movA] using bl, fun i hi => ?_⟩
      have hi2 : i < bx.length := by simpa using hi
      have := c i (by simpa using hi)
      show 0 ≤ gi (r.2.set ax (gi r.2 ax + z)) i ∧ gi (r.2.set ax (gi r.2 ax + z)) i + gi (bxOf ks r.1) i ≤ _
      by_cases e : i = ax
      · subst e
        rw [gi_set_eq hi2] at this ⊢
        rw [gi_set_eq (by omega)]
        omega
      · rw [gi_set_ne hi2 e] at this ⊢
        rw [gi_set_ne (by omega) e]
        omega
  · rw [List.pairwise_map]
    refine h2.dis.imp_of_mem fun {x y} mx my hd d d1 d2 => ?_
    obtain ⟨a, b, c⟩ := h2.fit x mx
    obtain ⟨a', b', c'⟩ := h2.fit y my
    have d1 : d ∈ covF (bxOf ks x.1) (x.2.set ax (gi x.2 ax + z)) := d1
    have d2 : d ∈ covF (bxOf ks y.1) (y.2.set ax (gi y.2 ax + z)) := d2
    have l1 : x.2.length = bx.length := by simpa using b
    have l2 : y.2.length = bx.length := by simpa using b'
    rw [cov_movA (by rw [l1, (k1 a).1]) (by rw [(k1 a).1]; exact hx)] at d1
    rw [cov_movA (by rw [l2, (k1 a').1]) (by rw [(k1 a').1]; exact hx)] at d2
    exact hd _ d1.2 d2.2
  · obtain ⟨r, hr, rfl⟩ := List.mem_map.mp hym
    obtain ⟨a, b, c⟩ := h1.fit x hxm
    obtain ⟨a', b', c'⟩ := h2.fit r hr
    have l1 : x.2.length = bx.length := by simpa using b
    have l2 : r.2.length = bx.length := by simpa using b'
    have d2 : d ∈ covF (bxOf ks r.1) (r.2.set ax (gi r.2 ax + z)) := d2
    have p1 := ((mem_cov (by rw [l1, (k1 a).1])).mp d1).2 ax (by rw [(k1 a).1]; exact hx)
    have p2 := ((mem_cov (by simp [l2, (k1 a').1])).mp d2).2 ax (by rw [(k1 a').1]; exact hx)
    rw [gi_set_eq (by omega)] at p2
    have q1 := c ax (by simpa using hx)
    have q2 := c' ax (by simpa using hx)
    rw [gi_set_eq hx] at q1
    omega
  · obtain ⟨dl, dm⟩ := (mem_cells _ _ rfl d).mp hd
    have dl : d.length = bx.length := by simpa using dl
    have dx := dm ax (by simpa using hx)
    rw [gi_set_eq hx] at dx
    have other : ∀ i, i < bx.length → i ≠ ax → 0 ≤ gi d i ∧ gi d i < gi bx i := fun i hi e => by
      have := dm i (by simpa using hi)
      rwa [gi_set_ne hi e] at this
    by_cases c : gi d ax < z
    · obtain ⟨p, hp, hm⟩ := h1.all d ((mem_cells _ _ rfl d).mpr ⟨by simpa using dl, fun i hi => by
        have hi2 : i < bx.length := by simpa using hi
        by_cases e : i = ax
        · subst e; rw [gi_set_eq hi2]; omega
        · rw [gi_set_ne hi2 e]; exact other i hi2 e⟩)
      exact ⟨p, List.mem_append.mpr (.inl hp), hm⟩
    · obtain ⟨p, hp, hm⟩ := h2.all (d.set ax (gi d ax - z)) ((mem_cells _ _ rfl _).mpr ⟨by simpa using dl, fun i hi => by
        have hi2 : i < bx.length := by simpa using hi
        by_cases e : i = ax
        · subst e; rw [gi_set_eq hi2, gi_set_eq (by omega)]; omega
        · rw [gi_set_ne hi2 e, gi_set_ne (by omega) e]; exact other i hi2 e⟩)
      obtain ⟨a, b, _⟩ := h2.fit p hp
      have l2 : p.2.length = bx.length := by simpa using b
      refine ⟨movA ax z p, List.mem_append.mpr (.inr (List.mem_map.mpr ⟨p, hp, rfl⟩)), ?_⟩
      show d ∈ covF (bxOf ks p.1) (p.2.set ax (gi p.2 ax + z))
      rw [cov_movA (by rw [l2, (k1 a).1]) (by rw [(k1 a).1]; exact hx)]
      exact ⟨by rw [(k1 a).1]; exact dl, hm⟩
theorem FL0.rows {ks : List (List Int)} {sides : List Int} {k : Nat} (hk : Kin ks sides) (h : k < ks.length) (hd : ∀ i, i < sides.length → gi (bxOf ks k) i ∣ gi sides i) : FL0 ks sides (flRows k (bxOf ks k) (List.replicate sides.length 0) sides) := by
  obtain ⟨l1, b1⟩ := kin_at hk h
  refine ⟨fun p hp => ?_, rows_dis ks rfl l1.symm b1, fun d hm => ?_⟩
  · obtain ⟨c, hc, rfl⟩ := List.mem_map.mp hp
    refine ⟨h, by rw [row_len, l1], fun i hi => ?_⟩
    have := row_fit (begin := List.replicate sides.length 0) l1.symm b1 hc (show i < (bxOf ks k).length by omega)
    rw [gi_rep0 hi] at this
    show 0 ≤ gi (rowF _ _ c) i ∧ gi (rowF _ _ c) i + gi (bxOf ks k) i ≤ _
    omega
  · obtain ⟨dl, dm⟩ := (mem_cells _ _ rfl d).mp hm
    obtain ⟨c, hc, hcv⟩ := row_cov (b := bxOf ks k) (begin := List.replicate sides.length 0) (sides := sides) (d := d) l1.symm b1 (fun i hi => hd i (by omega)) (by omega) fun i hi => by
      have := dm i (by omega)
      rw [gi_rep0 (by omega)]
      omega
    exact ⟨_, List.mem_map.mpr ⟨c, hc, rfl⟩, hcv⟩
def kindA (f : Nat → Nat) (p : Pl1) : Pl1 := (f p.1, p.2)
theorem FL0.kinds {ks ks' : List (List Int)} {bx : List Int} {f : Nat → Nat} {fl : List Pl1} (h : FL0 ks bx fl) (hf : ∀ k, k < ks.length → f k < ks'.length ∧ bxOf ks' (f k) = bxOf ks k) : FL0 ks' bx (fl.map (kindA f)) := by
  refine ⟨fun p hp => ?_, ?_, fun d hd => ?_⟩
  · obtain ⟨r, hr, rfl⟩ := List.mem_map.mp hp
    obtain ⟨a, b⟩ := h.fit r hr
    obtain ⟨c, e⟩ := hf _ a
    exact ⟨c, by show Fits (bxOf ks' (f r.1)) bx r.2; rw [e]; exact b⟩
  · rw [List.pairwise_map]
    refine h.dis.imp_of_mem fun {x y} mx my hd d d1 d2 => ?_
    have e1 := (hf _ (h.fit x mx).1).2
    have e2 := (hf _ (h.fit y my).1).2
    exact hd d (by rw [← e1]; exact d1) (by rw [← e2]; exact d2)
  · obtain ⟨r, hr, hm⟩ := h.all d hd
    exact ⟨kindA f r, List.mem_map.mpr ⟨r, hr, rfl⟩, by show d ∈ covF (bxOf ks' (f r.1)) r.2; rw [(hf _ (h.fit r hr).1).2]; exact hm⟩
theorem lx_lt : ∀ {a b : List Int}, a.length = b.length → lx a b → a < b
  | [], [], _, h => by simp [lx] at h
  | [], _ :: _, h, _ => by simp at h
  | _ :: _, [], h, _ => by simp at h
  | x :: a, y :: b, hl, h => by
    rw [List.cons_lt_cons_iff]
    rcases h with h | ⟨rfl, h⟩
    · exact .inl h
    · exact .inr ⟨rfl, lx_lt (by simpa using hl) h⟩
theorem lx_iff : ∀ {x y : List Int}, x.length = y.length → (lx x y ↔ ∃ i, i < x.length ∧ (∀ j, j < i → gi x j = gi y j) ∧ gi x i < gi y i)
  | [], [], _ => by simp [lx]
  | [], _ :: _, h => by simp at h
  | _ :: _, [], h => by simp at h
  | x :: a, y :: b, hl => by
    have ih := lx_iff (x := a) (y := b) (by simpa using hl)
    constructor
    · rintro (h | ⟨rfl, h⟩)
      · exact ⟨0, by simp, fun j hj => by omega, h⟩
      · obtain ⟨i, h1, h2, h3⟩ := ih.mp h
        refine ⟨i + 1, by simpa using h1, fun j hj => ?_, h3⟩
        cases j with
        | zero => rfl
        | succ j => exact h2 j (by omega)
    · rintro ⟨i, h1, h2, h3⟩
      cases i with
      | zero => exact .inl h3
      | succ i =>
        have h0 : x = y := h2 0 (by omega)
        exact .inr ⟨h0, ih.mpr ⟨i, by simpa using h1, fun j hj => h2 (j + 1) (by omega), h3⟩⟩
theorem lt_atK {k : Nat} {a b : List Int} (hl : a.length = b.length) (h : lx a b) : W.dataLt (atK k a) (atK k b) = true := by
  unfold atK
  have al : W.alike (tI a) (tI b) = true := by
    have := alike_ints hl
    unfold tI
    simpa [W.alike] using this
  rw [W.dataLt_pair (by simp [W.alike]) al, if_pos (by simp [PyData.eqv])]
  have ne : PyData.eqv (tI a) (tI b) = false := by
    cases e : PyData.eqv (tI a) (tI b) with
    | false => rfl
    | true =>
      have e2 := eq_of_eqv _ _ al e
      have e3 : a = b := (atK_inj (j := 0) (k := 0) (by unfold atK; rw [e2])).2
      subst e3
      exact (lx_ge h rfl fun i _ => Int.le_refl _).elim
  rw [ne, if_neg Bool.false_ne_true]
  unfold tI
  rw [W.dataLt_tuple]
  show W.rowLt (lI a) (lI b) = true
  unfold lI
  rw [W.dataLt_ints]
  exact decide_eq_true (lx_lt hl h)
theorem FL.rows {ks : List (List Int)} {sides : List Int} {k : Nat} (hk : Kin ks sides) (h : k < ks.length) (hd : ∀ i, i < sides.length → gi (bxOf ks k) i ∣ gi sides i) : FL ks sides (flRows k (bxOf ks k) (List.replicate sides.length 0) sides) := by
  have h0 := FL0.rows hk h hd
  obtain ⟨l1, b1⟩ := kin_at hk h
  refine ⟨h0.fit, ?_, h0.dis, h0.all⟩
  unfold flRows
  rw [List.pairwise_map]
  have so := cells_sorted (quoF sides (bxOf ks k))
  rw [← cells_eq] at so
  have lq : (quoF sides (bxOf ks k)).length = sides.length := by unfold quoF; simp [l1]
  have al := cells_lens _ (quoF sides (bxOf ks k)) rfl
  refine so.imp_of_mem fun {x y} mx my hxy => ?_
  have lx1 := al x mx
  have ly1 := al y my
  refine lt_atK (by rw [row_len, row_len]) ?_
  rw [lx_iff (by omega)] at hxy
  rw [lx_iff (by rw [row_len, row_len])]
  obtain ⟨i, h1, h2, h3⟩ := hxy
  refine ⟨i, by rw [row_len]; omega, fun j hj => ?_, ?_⟩
  · rw [gi_row (by omega), gi_row (by omega), h2 j hj]
  · rw [gi_row (by omega), gi_row (by omega)]
    have := b1 _ (gi_mem (show i < (bxOf ks k).length by omega))
    have := Int.mul_lt_mul_of_pos_right h3 (show 0 < gi (bxOf ks k) i by omega)
    omega
end TW
set_option Elab.async false
set_option linter.all false
set_option maxRecDepth 100000
set_option maxHeartbeats 4000000
namespace TW
open PySem PySem.Spec PyProof.Rows L2 DL
end TW
set_option Elab.async false
set_option linter.all false
set_option maxRecDepth 100000
set_option maxHeartbeats 4000000
namespace TW
open PySem PySem.Spec PyProof.Rows L2 DL
end TW
set_option Elab.async false
set_option linter.all false
set_option maxRecDepth 100000
set_option maxHeartbeats 4000000
namespace TW
open PySem PySem.Spec PyProof.Rows L2 DL
/-- what the box's sides are made of -/
structure Ok (n : Nat) (c d : List Int) : Prop where
  p1 : ∀ i, i < n → 1 ≤ gi c i
  p2 : ∀ i, i < n → 1 ≤ gi d i
end TW
set_option Elab.async false
set_option linter.all false
set_option maxRecDepth 100000
set_option maxHeartbeats 4000000
namespace TW
open PySem PySem.Spec PyProof.Rows L2 DL
end TW
set_option Elab.async false
set_option linter.all false
set_option maxRecDepth 100000
set_option maxHeartbeats 4000000
namespace TW
open PySem PySem.Spec PyProof.Rows L2 DL
end TW
set_option Elab.async false
set_option linter.all false
set_option maxRecDepth 100000
set_option maxHeartbeats 4000000
namespace TW
open PySem PySem.Spec PyProof.Rows L2 DL
abbrev Dv (n : Nat) (p q : List Int) : Prop := ∀ i, i < n → gi p i ∣ gi q i
structure Br (n : Nat) (p : List Int) : Prop where
  l : p.length = n
  p : ∀ i, i < n → 1 ≤ gi p i
theorem Dv.le {n : Nat} {p q : List Int} (h : Dv n p q) (b : Br n q) {i : Nat} (hi : i < n) : gi p i ≤ gi q i := Int.le_of_dvd (by have := b.p i hi; omega) (h i hi)
theorem Dv.eq {n : Nat} {p q : List Int} (bp : Br n p) (bq : Br n q) (h : Dv n p q) (g : Dv n q p) : p = q := by
  refine gi_ext (by rw [bp.l, bq.l]) fun i hi => ?_
  rw [bp.l] at hi
  exact Int.le_antisymm (h.le bq hi) (g.le bp hi)
end TW
set_option Elab.async false
set_option linter.all false
set_option maxRecDepth 100000
set_option maxHeartbeats 4000000
namespace TW
open PySem PySem.Spec PyProof.Rows L2 DL
theorem fill_cut {a b x : List Int} {m : Int} (hb : b.length = a.length) (pa : ∀ i, i < a.length → 1 ≤ gi a i) (pb : ∀ i, i < a.length → 1 ≤ gi b i) (h : IsCutBox a b x m) : Fill a b x := by
  obtain ⟨l, ax, s, t, ha, s0, s1, t0, t1, h⟩ := h
  refine .inr (.inr ⟨ax, by omega, fun i hi q => ?_, ?_⟩)
  · have e := h i (by omega)
    rw [if_neg q] at e
    obtain ⟨_, _, m3, m4⟩ := lcm_pos (pa i (by omega)) (pb i (by omega))
    rw [e]
    exact ⟨m3, m4⟩
  · have e := h ax ha
    rw [if_pos rfl] at e
    rw [isSum_iff (pa ax ha) (pb ax ha)]
    exact ⟨s, t, s0, by omega, e.symm⟩
end TW
set_option Elab.async false
set_option linter.all false
set_option maxRecDepth 100000
set_option maxHeartbeats 4000000
namespace TW
open PySem PySem.Spec PyProof.Rows L2 DL
end TW
set_option Elab.async false
set_option linter.all false
set_option maxRecDepth 100000
set_option maxHeartbeats 4000000
namespace TW
open PySem PySem.Spec PyProof.Rows L2 DL
end TW
set_option Elab.async false
set_option linter.all false
set_option maxRecDepth 100000
set_option maxHeartbeats 4000000
namespace TW
open PySem PySem.Spec PyProof.Rows L2 DL
end TW
set_option Elab.async false
set_option linter.all false
set_option maxRecDepth 100000
set_option maxHeartbeats 4000000
namespace TW
open PySem PySem.Spec PyProof.Rows L2 DL
end TW
set_option Elab.async false
set_option linter.all false
set_option maxRecDepth 100000
set_option maxHeartbeats 4000000
namespace TW
open PySem PySem.Spec PyProof.Rows L2 DL
/-- a filling that is drawn -/
structure Fd (ks : List (List Int)) (bx : List Int) (fl : List Pl1) : Prop where
  k4 : ks.length ≤ 4
  kk : ∀ b ∈ ks, b.length = bx.length ∧ In (10 ^ 12) b
  l0 : 0 < bx.length
  l4 : bx.length ≤ 4
  hb : ∀ x ∈ bx, 1 ≤ x
  hv : vol bx ≤ 400
  h : FL ks bx fl
section
variable {ks : List (List Int)} {bx : List Int} {fl : List Pl1}
theorem Fd.kin (d : Fd ks bx fl) : Kin ks bx := fun b hb => by
  obtain ⟨q1, q2⟩ := d.kk b hb
  exact ⟨q1, fun x hx => (q2 x hx).1⟩
theorem Fd.len (d : Fd ks bx fl) : fl.length ≤ 400 := by
  have := d.h.to0.lenV d.kin fun x hx => by have := d.hb x hx; omega
  have := d.hv
  omega
theorem Fd.side (d : Fd ks bx fl) {i : Nat} (hi : i < bx.length) : 1 ≤ gi bx i ∧ gi bx i ≤ 400 := ⟨d.hb _ (gi_mem hi), vol_side1 d.hb hi d.hv⟩
theorem Fd.at (d : Fd ks bx fl) {p : Pl1} (hp : p ∈ fl) : p.1 < ks.length ∧ p.2.length = bx.length ∧ (bxOf ks p.1).length = bx.length ∧ ∀ i, i < bx.length → 0 ≤ gi p.2 i ∧ gi p.2 i + gi (bxOf ks p.1) i ≤ gi bx i ∧ 1 ≤ gi (bxOf ks p.1) i := by
  obtain ⟨f1, f2, f3⟩ := d.h.fit p hp
  obtain ⟨k1, k2⟩ := kin_at d.kin f1
  exact ⟨f1, f2, k1, fun i hi => by
    have := f3 i hi
    have := k2 _ (gi_mem (show i < (bxOf ks p.1).length by omega))
    omega⟩
theorem Fd.cells (d : Fd ks bx fl) : CellsOk bx := .of d.hb (by have := d.hv; omega)
end
def metB (b c : List Int) (ax : Nat) (x : List Int) : Bool := (List.range x.length).all fun i => decide (i = ax) || (decide (gi c i ≤ gi x i) && decide (gi x i < gi c i + gi b i))
structure Line (ks : List (List Int)) (fl : List Pl1) (ax : Nat) (x : List Int) (W : List Pl1) : Prop where
  asc : W.Pairwise fun p q => gi p.2 ax < gi q.2 ax
  mem : ∀ p, p ∈ W ↔ p ∈ fl ∧ metB (bxOf ks p.1) p.2 ax x = true
theorem nodup_asc {ax : Nat} {W : List Pl1} (h : W.Pairwise fun p q => gi p.2 ax < gi q.2 ax) : W.Nodup := h.imp fun {a b} h e => by subst e; omega
theorem perm_of_mem : ∀ {l m : List Pl1}, l.Nodup → m.Nodup → (∀ x, x ∈ l ↔ x ∈ m) → l.Perm m
  | [], m, _, _, h => by
    cases m with
    | nil => exact .refl _
    | cons y m => have := (h y).mpr (by simp); cases this
  | x :: l, m, hl, hm, h => by
    obtain ⟨n1, n2⟩ := List.nodup_cons.mp hl
    have hx : x ∈ m := (h x).mp (by simp)
    refine List.Perm.trans ?_ (List.perm_cons_erase hx).symm
    refine .cons x (perm_of_mem n2 (hm.erase x) fun y => ?_)
    rw [hm.mem_erase_iff, ← h y, List.mem_cons]
    constructor
    · intro hy
      exact ⟨fun e => n1 (by rw [← e]; exact hy), .inr hy⟩
    · rintro ⟨h1, h2 | h2⟩
      · exact absurd h2 h1
      · exact h2
theorem Line.unique {ks : List (List Int)} {fl : List Pl1} {ax : Nat} {x : List Int} {W W' : List Pl1} (h : Line ks fl ax x W) (h' : Line ks fl ax x W') : W = W' :=
  (perm_of_mem (nodup_asc h.asc) (nodup_asc h'.asc) fun p => by rw [h.mem, h'.mem]).eq_of_pairwise (le := fun p q => gi p.2 ax < gi q.2 ax) (fun a b _ _ h1 h2 => by omega) h.asc h'.asc
section
variable {ks : List (List Int)} {bx : List Int} {fl : List Pl1} {ax : Nat} {x : List Int}
end
end TW
set_option Elab.async false
set_option linter.all false
set_option maxRecDepth 100000
set_option maxHeartbeats 4000000
namespace TW
open PySem PySem.Spec PyProof.Rows L2 DL
theorem lt_lx : ∀ {a b : List Int}, a.length = b.length → a < b → lx a b
  | [], [], _, h => absurd h (by simp)
  | [], _ :: _, h, _ => by simp at h
  | _ :: _, [], h, _ => by simp at h
  | x :: a, y :: b, hl, h => by
    rw [List.cons_lt_cons_iff] at h
    rcases h with h | ⟨rfl, h⟩
    · exact .inl h
    · exact .inr ⟨rfl, lt_lx (by simpa using hl) h⟩
theorem lt_iffK {j k : Nat} {a b : List Int} (hl : a.length = b.length) : W.dataLt (atK j a) (atK k b) = true ↔ j < k ∨ j = k ∧ lx a b := by
  by_cases e : j = k
  · subst e
    constructor
    · intro h
      refine .inr ⟨rfl, ?_⟩
      unfold atK at h
      have al : W.alike (tI a) (tI b) = true := by
        have := alike_ints hl
        unfold tI
        simpa [W.alike] using this
      rw [W.dataLt_pair (by simp [W.alike]) al, if_pos (by simp [PyData.eqv])] at h
      split at h
      · cases h
      · unfold tI at h
        rw [W.dataLt_tuple] at h
        have h : W.rowLt (lI a) (lI b) = true := h
        unfold lI at h
        rw [W.dataLt_ints] at h
        exact lt_lx hl (of_decide_eq_true h)
    · rintro (h | ⟨_, h⟩)
      · omega
      · exact lt_atK hl h
  · have al : W.alike (tI a) (tI b) = true := by
      have := alike_ints hl
      unfold tI
      simpa [W.alike] using this
    have ne : ¬ (PyData.eqv (.int (j : Int)) (.int (k : Int)) = true) := by
      simp only [PyData.eqv, beq_iff_eq]
      omega
    unfold atK
    rw [W.dataLt_pair (by simp [W.alike]) al, if_neg ne, W.dataLt_int]
    rw [decide_eq_true_eq]
    omega
def sawB (ks : List (List Int)) (fl : List Pl1) (ax : Nat) (z : Int) : Bool := fl.any fun p => decide (gi p.2 ax < z) && decide (z < gi p.2 ax + gi (bxOf ks p.1) ax)
theorem saw_no {ks : List (List Int)} {fl : List Pl1} {ax : Nat} {z : Int} : sawB ks fl ax z = false ↔ ∀ p ∈ fl, gi p.2 ax < z → gi p.2 ax + gi (bxOf ks p.1) ax ≤ z := by
  unfold sawB
  rw [List.any_eq_false]
  constructor
  · intro h p hp h1
    have := h p hp
    simp [h1] at this
    omega
  · intro h p hp h2
    rw [Bool.and_eq_true, decide_eq_true_eq, decide_eq_true_eq] at h2
    have := h p hp h2.1
    omega
def lowF (fl : List Pl1) (ax : Nat) (z : Int) : List Pl1 := fl.filter fun p => decide (gi p.2 ax < z)
def highF (fl : List Pl1) (ax : Nat) (z : Int) : List Pl1 := (fl.filter fun p => !decide (gi p.2 ax < z)).map (movA ax (-z))
section
variable {ks : List (List Int)} {bx : List Int} {fl : List Pl1} {ax : Nat} {z : Int}
theorem FL.low (d : Fd ks bx fl) (hax : ax < bx.length) (z0 : 1 ≤ z) (z1 : z < gi bx ax) (hs : sawB ks fl ax z = false) : FL ks (bx.set ax z) (lowF fl ax z) := by
  have hs := saw_no.mp hs
  have hlen : (bx.set ax z).length = bx.length := by simp
  refine ⟨fun p hp => ?_, List.Pairwise.filter _ d.h.asc, List.Pairwise.filter _ d.h.dis, fun c hc => ?_⟩
  · obtain ⟨hp, hz⟩ := List.mem_filter.mp hp
    have hz := of_decide_eq_true hz
    obtain ⟨f1, f2, f3, f4⟩ := d.at hp
    refine ⟨f1, by rw [hlen]; exact f2, fun i hi => ?_⟩
    rw [hlen] at hi
    have := f4 i hi
    have := hs p hp hz
    by_cases e : i = ax
    · subst e; rw [gi_set_eq hi]; omega
    · rw [gi_set_ne hi e]; omega
  · obtain ⟨cl, cm⟩ := (mem_cells _ _ rfl c).mp hc
    rw [hlen] at cl cm
    have cb : c ∈ cellsF bx := (mem_cells _ _ rfl c).mpr ⟨cl, fun i hi => by
      have := cm i hi
      by_cases e : i = ax
      · subst e; rw [gi_set_eq hi] at this; omega
      · rwa [gi_set_ne hi e] at this⟩
    obtain ⟨p, hp, hm⟩ := d.h.all c cb
    obtain ⟨f1, f2, f3, f4⟩ := d.at hp
    have m2 := ((mem_cov (by omega)).mp hm).2 ax (by omega)
    have cx := cm ax hax
    rw [gi_set_eq hax] at cx
    exact ⟨p, List.mem_filter.mpr ⟨hp, decide_eq_true (by omega)⟩, hm⟩
theorem FL.high (d : Fd ks bx fl) (hax : ax < bx.length) (z0 : 1 ≤ z) (z1 : z < gi bx ax) (hs : sawB ks fl ax z = false) : FL ks (bx.set ax (gi bx ax - z)) (highF fl ax z) := by
  have hs := saw_no.mp hs
  have hlen : (bx.set ax (gi bx ax - z)).length = bx.length := by simp
  have lem : ∀ {a b : List Int}, a.length = bx.length → b.length = bx.length → lx a b → lx (a.set ax (gi a ax + -z)) (b.set ax (gi b ax + -z)) := fun {a b} la lb h => by
    rw [lx_iff (by omega)] at h
    rw [lx_iff (by simp; omega)]
    obtain ⟨i, h1, h2, h3⟩ := h
    refine ⟨i, by simpa using h1, fun j hj => ?_, ?_⟩
    · have := h2 j hj
      by_cases e : j = ax
      · subst e; rw [gi_set_eq (by omega), gi_set_eq (by omega)]; omega
      · rw [gi_set_ne (by omega) e, gi_set_ne (by omega) e]; exact this
    · by_cases e : i = ax
      · subst e; rw [gi_set_eq (by omega), gi_set_eq (by omega)]; omega
      · rw [gi_set_ne (by omega) e, gi_set_ne (by omega) e]; exact h3
  refine ⟨fun p hp => ?_, ?_, ?_, fun c hc => ?_⟩
  · obtain ⟨r, hr, rfl⟩ := List.mem_map.mp hp
    obtain ⟨hr, hz⟩ := List.mem_filter.mp hr
    have hz : ¬ gi r.2 ax < z := by simpa using hz
    obtain ⟨f1, f2, f3, f4⟩ := d.at hr
    refine ⟨f1, by simpa [movA] using f2, fun i hi => ?_⟩
    rw [hlen] at hi
    have := f4 i hi
    show 0 ≤ gi (r.2.set ax (gi r.2 ax + -z)) i ∧ gi (r.2.set ax (gi r.2 ax + -z)) i + gi (bxOf ks r.1) i ≤ _
    by_cases e : i = ax
    · subst e; rw [gi_set_eq hi, gi_set_eq (by omega)]; omega
    · rw [gi_set_ne hi e, gi_set_ne (by omega) e]; omega
  · unfold highF
    rw [List.pairwise_map]
    refine (List.Pairwise.filter _ d.h.asc).imp_of_mem fun {p q} mp mq h => ?_
    obtain ⟨_, p2, _⟩ := d.at (List.mem_filter.mp mp).1
    obtain ⟨_, q2, _⟩ := d.at (List.mem_filter.mp mq).1
    rw [lt_iffK (by omega)] at h
    show W.dataLt (atK p.1 (p.2.set ax _)) (atK q.1 (q.2.set ax _)) = true
    rw [lt_iffK (by simp; omega)]
    rcases h with h | ⟨h1, h2⟩
    · exact .inl h
    · exact .inr ⟨h1, lem p2 q2 h2⟩
  · unfold highF
    rw [List.pairwise_map]
    refine (List.Pairwise.filter _ d.h.dis).imp_of_mem fun {p q} mp mq h c c1 c2 => ?_
    obtain ⟨_, p2, p3, _⟩ := d.at (List.mem_filter.mp mp).1
    obtain ⟨_, q2, q3, _⟩ := d.at (List.mem_filter.mp mq).1
    have c1 : c ∈ covF (bxOf ks p.1) (p.2.set ax (gi p.2 ax + -z)) := c1
    have c2 : c ∈ covF (bxOf ks q.1) (q.2.set ax (gi q.2 ax + -z)) := c2
    rw [cov_movA (by omega) (by omega)] at c1 c2
    exact h _ c1.2 c2.2
  · obtain ⟨cl, cm⟩ := (mem_cells _ _ rfl c).mp hc
    rw [hlen] at cl cm
    have cb : c.set ax (gi c ax + z) ∈ cellsF bx := (mem_cells _ _ rfl _).mpr ⟨by simpa using cl, fun i hi => by
      have := cm i hi
      by_cases e : i = ax
      · subst e; rw [gi_set_eq hi] at this; rw [gi_set_eq (by omega)]; omega
      · rw [gi_set_ne hi e] at this; rw [gi_set_ne (by omega) e]; exact this⟩
    obtain ⟨p, hp, hm⟩ := d.h.all _ cb
    obtain ⟨f1, f2, f3, f4⟩ := d.at hp
    have m2 := ((mem_cov (by omega)).mp hm).2 ax (by omega)
    rw [gi_set_eq (by omega)] at m2
    have cx := cm ax hax
    have hz : ¬ gi p.2 ax < z := fun h => by
      have := hs p hp h
      omega
    refine ⟨movA ax (-z) p, List.mem_map.mpr ⟨p, List.mem_filter.mpr ⟨hp, by simpa using hz⟩, rfl⟩, ?_⟩
    show c ∈ covF (bxOf ks p.1) (p.2.set ax (gi p.2 ax + -z))
    rw [cov_movA (by omega) (by omega), show gi c ax - -z = gi c ax + z by omega]
    exact ⟨by omega, hm⟩
theorem vol_setle (d : Fd ks bx fl) (hax : ax < bx.length) {y : Int} (y0 : 1 ≤ y) (y1 : y ≤ gi bx ax) : vol (bx.set ax y) ≤ 400 := by
  have := (vol_le0 (a := bx.set ax y) (b := bx) (by simp) fun i hi => by
    have := d.side hi
    by_cases e : i = ax
    · subst e; rw [gi_set_eq hi]; omega
    · rw [gi_set_ne hi e]; omega).2
  have := d.hv
  omega
theorem Fd.box (d : Fd ks bx fl) {fl' : List Pl1} {y : Int} (y0 : 1 ≤ y) (hv : vol (bx.set ax y) ≤ 400) (h : FL ks (bx.set ax y) fl') : Fd ks (bx.set ax y) fl' :=
  ⟨d.k4, fun b hb => by simpa using d.kk b hb, by simpa using d.l0, by simpa using d.l4, fun x hx => by
    rcases List.mem_or_eq_of_mem_set hx with m | m
    · exact d.hb x m
    · omega, hv, h⟩
theorem Fd.low (d : Fd ks bx fl) (hax : ax < bx.length) (z0 : 1 ≤ z) (z1 : z < gi bx ax) (hs : sawB ks fl ax z = false) : Fd ks (bx.set ax z) (lowF fl ax z) :=
  d.box z0 (vol_setle d hax z0 (by omega)) (FL.low d hax z0 z1 hs)
theorem Fd.high (d : Fd ks bx fl) (hax : ax < bx.length) (z0 : 1 ≤ z) (z1 : z < gi bx ax) (hs : sawB ks fl ax z = false) : Fd ks (bx.set ax (gi bx ax - z)) (highF fl ax z) :=
  d.box (by omega) (vol_setle d hax (by omega) (by omega)) (FL.high d hax z0 z1 hs)
end
end TW
set_option Elab.async false
set_option linter.all false
set_option maxRecDepth 100000
set_option maxHeartbeats 4000000
namespace TW
open PySem PySem.Spec PyProof.Rows L2 DL
end TW
set_option Elab.async false
set_option linter.all false
set_option maxRecDepth 100000
set_option maxHeartbeats 4000000
namespace TW
open PySem PySem.Spec PyProof.Rows L2 DL
end TW
set_option Elab.async false
set_option linter.all false
set_option maxRecDepth 100000
set_option maxHeartbeats 4000000
namespace TW
open PySem PySem.Spec PyProof.Rows L2 DL
def triD (t : Nat × Nat × Int) : PyData := .tuple [.int (t.1 : Int), .int (t.2.1 : Int), .int t.2.2]
/-- all cuts, in order -/
def cutsL (a b bx : List Int) : List (Nat × Nat × Int) := [0, 1].flatMap fun f => (List.range bx.length).flatMap fun ax => ((List.range (gi bx ax + 1).toNat).filter fun (z : Nat) => cutB (fst2 f a b) (fst2 f b a) bx ax (z : Int)).map fun (z : Nat) => (f, ax, (z : Int))
end TW
set_option Elab.async false
set_option linter.all false
set_option maxRecDepth 100000
set_option maxHeartbeats 4000000
namespace TW
open PySem PySem.Spec PyProof.Rows L2 DL
theorem mem_cutsL {a b bx : List Int} (h : PB a b bx) {t : Nat × Nat × Int} : t ∈ cutsL a b bx ↔ IsCut a b bx t.1 t.2.1 t.2.2 := by
  obtain ⟨f, ax, z⟩ := t
  unfold cutsL IsCut
  simp only [List.mem_flatMap, List.mem_map, List.mem_filter, List.mem_range, Prod.mk.injEq]
  constructor
  · rintro ⟨f', hf, ax', hax, z', ⟨hz, hc⟩, rfl, rfl, rfl⟩
    have := (gi_pos rfl hax h.px).1
    exact ⟨by simp at hf; omega, hax, by omega, by omega, hc⟩
  · rintro ⟨hf, hax, z0, z1, hc⟩
    refine ⟨f, by simp; omega, ax, hax, z.toNat, ⟨by omega, ?_⟩, rfl, rfl, by omega⟩
    rw [show ((z.toNat : Nat) : Int) = z by omega]
    exact hc
/-- the cuts of one kind first, along the first axes -/
def cutsA (a b bx : List Int) (f ax : Nat) : List (Nat × Nat × Int) := ((List.range (gi bx ax + 1).toNat).filter fun (z : Nat) => cutB (fst2 f a b) (fst2 f b a) bx ax (z : Int)).map fun (z : Nat) => (f, ax, (z : Int))
theorem cutsL_eq (a b bx : List Int) : cutsL a b bx = [0, 1].flatMap fun f => (List.range bx.length).flatMap fun ax => cutsA a b bx f ax := rfl
end TW
set_option Elab.async false
set_option linter.all false
set_option maxRecDepth 100000
set_option maxHeartbeats 4000000
namespace DL
open PySem PySem.Spec PyProof.Rows L2 PySem.W PySem.Calls
variable [Tb]
/-- what the written part tells of the class C, its __init__ at fI -/
structure ExcInitC (P : Program) (K : PySem.W.Frag) (C fI : Addr) (ps : List Str) : Prop where
  T : OexC K C
  cd : ∃ cdD, clsIn K C = some cdD
  sub : mroIn K C (.ref C) = some true
  opq : nsIn K cStatics "thirdparty.any" = some none
  ini : ks_superIn K C C "__init__" = some (some (.builtin "ValueError.__init__"))
  ve : subIn K (.ref C) (.type "ValueError") = some true
section
variable {prog : Program} {w : World} {A : Around} {E : Value → Shared → Prop} {s : Shared} {K : PySem.W.Frag}
theorem wp_super_init {body : List Stmt} {q : Str} {scope : Scope} {L f cda cc C e t0 : Addr} {fd : FuncData} {ar : Arg} {vs : Array Value} {file : Str} {tf : Tok} {oc ccl cl : Value} {od cdd cld : Option Addr} {osl ccs csl : Array (Option Value)} {p0 p1 p4 : Pos} {ex : Expr} {es : List Expr} {us : List Value} {m mg mb : Str → Option Value} {ps : List Str} {fI : Addr} {whole : Sem Value} {pl : Sem Bool} {Q : Value → Shared → Prop}
    (X : K.In s.heap) (T : ExcInitC prog K C fI ps) (hm : s.heap.Ns L m) (hG : s.heap.Ns mainGlobals mg) (hsm : mg "super" = none) (hB : s.heap.Ns builtinsNs mb) (hsb : mb "super" = some (.type "super"))
    (hf : K.lookup f = some ⟨oc, od, .func fd, osl⟩) (hp : (fd.params.posonlyargs ++ fd.params.args).head? = some ar) (hv : m ar.arg = some (.ref e)) (he : s.heap.get? e = some (HandSPX.excO C t0))
    (hcode : K.lookup cda = some ⟨ccl, cdd, .fields vs, ccs⟩) (hvs : vs[2]? = some (.str file tf)) (hfile : ((prog.main.file : Str) == file) = true)
    (hcell : K.lookup cc = some ⟨cl, cld, .cell (some (.ref C)), csl⟩)
    (hks : scope.names.lookup ("super" : Str) = some .globalImplicit) (hkc : scope.names.lookup ("__class__" : Str) = some .free) (hka : scope.names.lookup ar.arg = some .local) (hk : scope.kind = .function)
    (htop : (prog.main.scope.names.lookup ("super" : Str)).isSome = false) (hus : us.length ≤ 1000) (hst : starEach (ex :: es) (ksEnv q scope L f (.ref cda) cc) = (false, eval ex (ksEnv q scope L f (.ref cda) cc)) :: starEach es (ksEnv q scope L f (.ref cda) cc)) (hpl : (backTo p4 (starEach es (ksEnv q scope L f (.ref cda) cc))).any (·.1) = false)
    (hsp : ∀ (s1 : Shared) (Q : List Value → Shared → Prop), s1.heap.Ns L m → Q us s1 → wpAny (model prog w) A (spliced (backTo p4 (starEach (ex :: es) (ksEnv q scope L f (.ref cda) cc)))) Q E s1)
    (h : ∀ h' t', (∀ b o, b ≠ e → s.heap.get? b = some o → h'.get? b = some o) → (∃ t1, h'.get? e = some (HandSPX.excO C t1)) → Q .none { s with heap := h', toks := t' }) :
    _root_.PySem.wpAt (model prog w) A (.func body (ksEnv q scope L f (.ref cda) cc)) (attributeBase (.Call (.Name "super" p0) [] [] p1) "__init__" (ksEnv q scope L f (.ref cda) cc) whole)
      (fun ov s₁ => wpAny (model prog w) A (getMethod ov "__init__" pl) (fun fx s₂ => wpAny (model prog w) A (callWith p4 fx.1 fx.2 (backTo p4 (starEach (ex :: es) (ksEnv q scope L f (.ref cda) cc))) []) Q E s₂) E s₁) E s := by
  obtain ⟨nm, q', N, bs, bm, sn, sub, ab, col, dd, k0, k1, k2, k3, k5, hC, hbm⟩ := T.T.cls
  obtain ⟨cdD, hD⟩ := T.cd
  obtain ⟨hh, g, d, t, os⟩ := s
  obtain ⟨oD, hD1, hD2⟩ : ∃ oD, hh.get? C = some oD ∧ oD.data = .cls cdD := by
    unfold clsIn at hD
    split at hD
    · rename_i c d cd' sl ho
      cases hD
      exact ⟨_, X _ _ ho, rfl⟩
    · cases hD
  have eC : e ≠ C := fun z => by
    rw [z] at he
    rw [hD1] at he
    cases he
    cases hD2
  have hini := T.ini
  unfold ks_superIn at hini
  rw [hD] at hini
  refine ks_wpAt_super_base (env := ksEnv q scope L f (.ref cda) cc) hks hkc (by decide) rfl (X _ _ hf) rfl hp rfl (X _ _ hcode) rfl hvs hfile htop ?_
  refine ks_loadName_global hk hks (loadGlobal_builtin (env := ksEnv q scope L f (.ref cda) cc) hG hsm hB hsb ⟨rfl, ?_⟩)
  refine wpAny_loadName_free hk hkc rfl ⟨_, X _ _ hcell, rfl⟩ ?_
  refine wpAny_loadName_local hk hka hm hv ?_
  refine ks_wpAny_isType_cls hD1 hD2 ⟨rfl, ?_⟩
  refine ks_wpAny_call_super hD1 hD2 he rfl (fun c e => by cases e) (looks_mroIn X T.sub) (fun h1 e1 k1' => ?_)
  have X1 : K.In h1 := X.keeps k1'
  have he1 := k1' _ _ he
  have I1 : InstAt h1 e (HandSPX.excO C t0) C none := ⟨he1, rfl, rfl, trivial⟩
  refine kxs_getMethod kxs_ValueError e1 (looks_opaque X1 T.opq) (l₀ := cdD.mro) (fun A Q E s k q => wpAny_bind ((looks_clsIn X1 hD) A _ E s k (wpAny_pure q))) rfl X1 hini (I1.type.andThen (looks_subIn X1 T.ve)) eC (by decide) ?_
  have hm1 : h1.Ns L m := hm.keeps k1'
  have kk : ∀ b o, h1.get? b = some o → (h1.push (kxs_mw "ValueError.__init__" e)).get? b = some o := fun b o z => Heap.get?_push_of_some _ z
  have hu : (h1.push (kxs_mw "ValueError.__init__" e)).get? h1.objs.size = some (kxs_mw "ValueError.__init__" e) := Heap.get?_push_at rfl rfl
  rw [hst]
  refine kxs_callWith (i := "ValueError.__init__") (x := e) (by show (false || (backTo p4 (starEach es (ksEnv q scope L f (.ref cda) cc))).any (·.1)) = false; rw [hpl]; rfl) ?_
  refine evalArgs_plain ?_
  rw [hst] at hsp
  refine hsp _ _ (hm1.keeps kk) ⟨hu, ?_⟩
  show wpAny _ _ (call (.ref h1.objs.size) us) _ _ _
  refine wpAny_call (codeAny_of_tree ?_)
  show wpAny _ A.in1 (callAny (.ref h1.objs.size) ⟨us, []⟩) _ _ _
  simp only [callAny]
  refine wpAny_bind (wpAny_load hu ?_)
  simp only [kxs_mw, show (Value.type "method-wrapper" == Value.type "method" || Value.type "method-wrapper" == Value.type "builtin_function_or_method" || Value.type "method-wrapper" == Value.type "method-wrapper") = true by decide, if_true]
  refine KFB.if_so (by decide) ?_
  refine wpAny_bind (check_bound_init (F.excBase_ValueError).toExcCallFacts (kk _ _ (X1 _ _ hC)) (kk _ _ he1) rfl ?_)
  refine wpAny_bind (wpAny_pure (wpAny_pure ?_))
  refine ⟨plainId_quiet (F.excBase_ValueError).init.plain _, codeAny_builtin (F.excBase_ValueError).initEntry ?_⟩
  refine exc_init_tree (cls := .ref C) (t0 := t0) (dv := none) (c2 := .none) (c3 := .none) (b4 := .bool false) (kk _ _ he1) (by rw [sizeLine_eq]; omega) fun h3 k3' e3 _ => ?_
  exact h h3 _ (fun b o hb z => k3' b o hb (kk _ _ (k1' _ _ z))) ⟨_, e3⟩
end
end DL
set_option Elab.async false
set_option linter.all false
set_option maxRecDepth 100000
set_option maxHeartbeats 4000000
namespace DL
open PySem PySem.Spec PyProof.Rows L2 PySem.W PySem.Calls NdefX
variable [Tb]
section
variable {P : Program} {w : World} {K : PySem.W.Frag} {mg : Str → Option Value} {base : Heap}
theorem init_okG {k : Nat} {C fI cda cc : Addr} {name qual file : Str} {tf : Tok} {params : Arguments} {scope : Scope} {N ps : List Str} {sp : Sp} {ar : Arg} {ex : Expr} {es : List Expr} {rest : List Stmt} {p0 p1 p2 p4 p5 : Pos} {oc ct ccl cl doc pm : Value} {an od cdd cld : Option Addr} {osl ccs csl : Array (Option Value)} {cvs : Array Value} {ips : List Str}
    (T : ExcInitC P K C fI ips)
    (lk : K.lookup fI = some ⟨oc, od, .func (fnX name qual params (.Expr (.Call (.Attribute (.Call (.Name "super" p0) [] [] p1) "__init__" p2) (ex :: es) [] p4) p5 :: rest) scope [("__class__", cc)] .none .none doc pm an (.ref cda) ct), osl⟩)
    (hcd : codeIn K (.ref cda) qual = true) (hcode : K.lookup cda = some ⟨ccl, cdd, .fields cvs, ccs⟩) (hvs : cvs[2]? = some (.str file tf)) (hfile : ((P.main.file : Str) == file) = true)
    (hcell : K.lookup cc = some ⟨cl, cld, .cell (some (.ref C)), csl⟩) (hsm : mg "super" = none)
    (S : NScope N ps ["__class__"] scope) (hp : (params.posonlyargs ++ params.args).head? = some ar) (har : ps.head? = some ar.arg) (hnd : ps.Nodup)
    (hks : scope.names.lookup ("super" : Str) = some .globalImplicit) (htop : (P.main.scope.names.lookup ("super" : Str)).isSome = false)
    (hst : ∀ L, starEach (ex :: es) (ksEnv qual scope L fI (.ref cda) cc) = (false, eval ex (ksEnv qual scope L fI (.ref cda) cc)) :: starEach es (ksEnv qual scope L fI (.ref cda) cc))
    (hpl : ∀ L, (backTo p4 (starEach es (ksEnv qual scope L fI (.ref cda) cc))).any (·.1) = false)
    (hargs : ∀ (us : List Value) (A : Around) (L : Addr) (s1 : Shared) (Q : List Value → Shared → Prop) (E : Value → Shared → Prop), us.length = ps.length → s1.heap.Ns L (fun y => (ps.zip us).reverse.lookup y) → Q us.tail s1 → wpAny (model P w) A (spliced (backTo p4 (starEach (ex :: es) (ksEnv qual scope L fI (.ref cda) cc)))) Q E s1)
    (hev : ∀ L, ∃ pl, eval (.Call (.Attribute (.Call (.Name "super" p0) [] [] p1) "__init__" p2) (ex :: es) [] p4) (ksEnv qual scope L fI (.ref cda) cc) = (do
      let ov ← attributeBase (.Call (.Name "super" p0) [] [] p1) "__init__" (ksEnv qual scope L fI (.ref cda) cc) (eval (.Call (.Name "super" p0) [] [] p1) (ksEnv qual scope L fI (.ref cda) cc))
      standAt p2.atName
      let (f, first) ← holding [ov] (getMethod ov "__init__" pl)
      callWith p4 f first (backTo p4 (starEach (ex :: es) (ksEnv qual scope L fI (.ref cda) cc))) []))
    (hsw : ∀ L, swapsWith (.Call (.Attribute (.Call (.Name "super" p0) [] [] p1) "__init__" p2) (ex :: es) [] p4) none p5.line (ksEnv qual scope L fI (.ref cda) cc) = pure false)
    (hin : ∀ L, interactive (ksEnv qual scope L fI (.ref cda) cc) = false)
    (hspl : ∀ vs H Q E, sp vs H Q E → vs.length = ps.length ∧ ps.length ≤ 1000 ∧ ∃ a r, vs = .ref a :: r ∧ H a = some (exo a C none))
    (hrest : ∀ (A : Around) (outer : List Env) (s : Shared) (H : Hp) (vs : List V) (Q : VK) (E : XK), sp vs H Q E →
      ∃ t, PSs (ncx CX0 P w K mg base N ⟨name, qual, params, .Expr (.Call (.Attribute (.Call (.Name "super" p0) [] [] p1) "__init__" p2) (ex :: es) [] p4) p5 :: rest, scope, [("__class__", cc)], cda⟩ fI A outer s H E) rest t ∧ t { nx := fun _ H' => Q .non H', rt := Q } (startF N vs [none]) H) :
    FnOk P w K mg base CX0 (k + 1) fI (fnX name qual params (.Expr (.Call (.Attribute (.Call (.Name "super" p0) [] [] p1) "__init__" p2) (ex :: es) [] p4) p5 :: rest) scope [("__class__", cc)] .none .none doc pm an (.ref cda) ct) ps sp := by
  refine ⟨fun vs H Q E h => (hspl vs H Q E h).1, fun A outer s H args us vs Q E hr e0 hb r hsp => ?_⟩
  obtain ⟨hl, hn, a, rvs, ev, ea⟩ := hspl _ _ _ _ hsp
  have X : K.In s.heap := e0.mod.kin.keeps fun b o e => (e0.bs b o e).1
  have lim : s.heap.NoLimit := e0.mod.nolimit.keeps fun b o e => (e0.bs b o e).1
  have hul : us.length = ps.length := by rw [← r.length]; exact hl
  obtain ⟨t, ht, hq⟩ := hrest A outer s H vs Q E hsp
  obtain ⟨us0, ur, eus, ru0⟩ : ∃ u0 ur, us = u0 :: ur ∧ u0 = Value.ref a := by
    rw [ev] at r
    cases r with
    | @cons _ u0 _ ur ra rw' => exact ⟨u0, ur, rfl, ra⟩
  subst ru0
  refine ks_codeAny_call_defAt hr.depth (X _ _ lk) rfl lim (PySem.W.codeRec_of X hcd) rfl hb S.nocell (fun ⟨n, _⟩ hy => S.par n (List.of_mem_zip hy).1) (fun h₁ hns kp => ?_) S.co S.gen S.kind
  show _root_.PySem.wpAt (model P w) (A.deeper (ksEnv qual scope s.heap.objs.size fI (.ref cda) cc)) (.func _ (ksEnv qual scope s.heap.objs.size fI (.ref cda) cc)) (execs _ (ksEnv qual scope s.heap.objs.size fI (.ref cda) cc)) _ _ _
  have C0 : CellsAt [("__class__", cc)] ["__class__"] [none] s.heap H := by
    obtain ⟨o1, o2⟩ : (∃ o, base.get? cc = some o ∧ o = ⟨cl, cld, .cell (some (.ref C)), csl⟩) ∧ H cc = none := ⟨⟨_, e0.mod.kin _ _ hcell, rfl⟩, (e0.bs _ _ (e0.mod.kin _ _ hcell)).2⟩
    refine ⟨rfl, fun y c e => ?_, fun x y c e1 e2 => ?_, fun i y e => ?_⟩
    · have : c = cc := by
        simp only [List.lookup] at e
        split at e
        · exact (Option.some.inj e).symm
        · cases e
      subst this
      exact ⟨o2, _, _, X _ _ hcell, rfl⟩
    · have key : ∀ {z : Str}, List.lookup z [(("__class__" : Str), cc)] = some c → z = "__class__" := fun {z} e => by
        simp only [List.lookup] at e
        split at e
        · rename_i q; simpa using q
        · cases e
      rw [key e1, key e2]
    · cases i with
      | zero =>
        have : y = "__class__" := by simpa using e.symm
        subst this
        exact ⟨cc, by simp [List.lookup], fun v e => by simp at e⟩
      | succ i => simp at e
  have I : Inv (ncx CX0 P w K mg base N ⟨name, qual, params, .Expr (.Call (.Attribute (.Call (.Name "super" p0) [] [] p1) "__init__" p2) (ex :: es) [] p4) p5 :: rest, scope, [("__class__", cc)], cda⟩ fI A outer s H E) [] (startF N vs [none]) H { s with heap := h₁, toks := s.toks + (ps.zip us).length } := inv_startN S hr.hd e0 hl r C0 hns kp
  obtain ⟨t1, hoe⟩ := exo_at I.hok ea
  obtain ⟨mb, hB, hbs⟩ := e0.mod.blt
  obtain ⟨pl, he⟩ := hev s.heap.objs.size
  refine ks_wpAt_execs_cons (ks_wpAt_Expr_any (ks_wpAt_MethodCall ?_ he) (hin _) (hsw _))
  have kb : ∀ b o, base.get? b = some o → h₁.get? b = some o := fun b o e => kp _ _ (e0.bs b o e).1
  refine wp_super_init (m := fun y => (ps.zip us).reverse.lookup y) (mg := mg) (mb := mb) (us := ur) (e := a) (t0 := t1) (L := s.heap.objs.size) (X.keeps kp) T hns (e0.mod.glob.keeps kb) hsm (hB.keeps kb) (by rw [hbs _ (by decide)]; rfl) lk hp ?_ hoe hcode hvs hfile hcell hks (S.frk _ (by simp)) (S.par _ (List.mem_of_head? har)) S.kind htop (by have : us.length = ps.length := hul; rw [eus] at this; simp at this; omega) (hst _) (hpl _) (fun s1 Q2 hn2 q2 => hargs us _ _ s1 Q2 _ hul hn2 (by rw [eus]; exact q2)) ?_
  · rw [eus]
    cases ps with
    | nil => cases har
    | cons p0' ps' =>
      have : p0' = ar.arg := Option.some.inj har
      subst this
      exact zip_look (i := 0) hnd rfl rfl
  · intro h' t' kk ⟨t2, he'⟩
    refine wpAt_of_wpAny ?_
    have J := I.write (t' := t') (x := a) (e := a) (o := exo a C none) (by rw [ea]; exact True.intro) (.inl rfl) (fun b o e1 e2 => kk b o e1 e2) ⟨_, he'⟩ (exo_ok he')
    have eu : upd H a (exo a C none) = H := by
      funext b
      by_cases hb : b = a
      · rw [hb, upd_same, ea]
      · rw [upd_ne hb]
    rw [eu] at J
    refine wpAny_mono (ht.run [] _ (startF N vs [none]) H _ J hq) (fun fl s' hs => ?_) fun e s' hs => hs
    have fin : ∀ {σ' : L2.St} {H' : Hp} {v : V} {u : Value}, Inv (ncx CX0 P w K mg base N ⟨name, qual, params, .Expr (.Call (.Attribute (.Call (.Name "super" p0) [] [] p1) "__init__" p2) (ex :: es) [] p4) p5 :: rest, scope, [("__class__", cc)], cda⟩ fI A outer s H E) [] σ' H' s' → L2.RelV v u → Q v H' → CE outer P w H s Q u s' :=
      fun {σ' H' v u} J rv q => ⟨v, H', J.os, J.bare, J.base, J.hok, rv, q⟩
    cases fl with
    | ret u =>
      obtain ⟨v, σ', H', J, rv, q⟩ := hs
      exact fin J rv q
    | next =>
      obtain ⟨σ', H', J, q⟩ := hs
      exact fin (v := V.non) (u := Value.none) J rfl q
    | brk =>
      obtain ⟨_, _, _, q⟩ := hs
      exact False.elim q
    | cont =>
      obtain ⟨_, _, _, q⟩ := hs
      exact False.elim q
/-- __init__(self, x): super().__init__(x); self.x = x -/
def spI1 (C : Addr) (x : Str) : Sp := fun vs H Q _ => ∃ (a : Addr) (v : V), vs = [.ref a, v] ∧ H a = some (exo a C none) ∧ ∀ dx, H dx = none → dx ≠ a → Q .non (upd (upd H dx (exd dx [(x, v)])) a (exo a C (some dx)))
/-- what the written part tells of the __init__ of the class C -/
structure IniC (P : Program) (K : PySem.W.Frag) (mg : Str → Option Value) (C fI cda cc : Addr) (qual : Str) (params : Arguments) (scope : Scope) (N ps : List Str) (ex : Expr) (es : List Expr) (p0 p1 p2 p4 p5 : Pos) : Prop where
  T : ExcInitC P K C fI []
  hcd : codeIn K (.ref cda) qual = true
  hcode : ∃ ccl cdd cvs ccs file tf, K.lookup cda = some ⟨ccl, cdd, .fields cvs, ccs⟩ ∧ cvs[2]? = some (.str file tf) ∧ ((P.main.file : Str) == file) = true
  hcell : ∃ cl cld csl, K.lookup cc = some ⟨cl, cld, .cell (some (.ref C)), csl⟩
  hsm : mg "super" = none
  S : NScope N ps ["__class__"] scope
  hp : ∃ ar, (params.posonlyargs ++ params.args).head? = some ar ∧ ps.head? = some ar.arg
  hnd : ps.Nodup
  hks : scope.names.lookup ("super" : Str) = some .globalImplicit
  htop : (P.main.scope.names.lookup ("super" : Str)).isSome = false
  hst : ∀ L, starEach (ex :: es) (ksEnv qual scope L fI (.ref cda) cc) = (false, eval ex (ksEnv qual scope L fI (.ref cda) cc)) :: starEach es (ksEnv qual scope L fI (.ref cda) cc)
  hpl : ∀ L, (backTo p4 (starEach es (ksEnv qual scope L fI (.ref cda) cc))).any (·.1) = false
  hev : ∀ L, ∃ pl, eval (.Call (.Attribute (.Call (.Name "super" p0) [] [] p1) "__init__" p2) (ex :: es) [] p4) (ksEnv qual scope L fI (.ref cda) cc) = (do
      let ov ← attributeBase (.Call (.Name "super" p0) [] [] p1) "__init__" (ksEnv qual scope L fI (.ref cda) cc) (eval (.Call (.Name "super" p0) [] [] p1) (ksEnv qual scope L fI (.ref cda) cc))
      standAt p2.atName
      let (f, first) ← holding [ov] (getMethod ov "__init__" pl)
      callWith p4 f first (backTo p4 (starEach (ex :: es) (ksEnv qual scope L fI (.ref cda) cc))) [])
  hsw : ∀ L, swapsWith (.Call (.Attribute (.Call (.Name "super" p0) [] [] p1) "__init__" p2) (ex :: es) [] p4) none p5.line (ksEnv qual scope L fI (.ref cda) cc) = pure false
  hin : ∀ L, interactive (ksEnv qual scope L fI (.ref cda) cc) = false
theorem init_ok1 {k : Nat} {C fI cda cc : Addr} {name qual x : Str} {params : Arguments} {scope : Scope} {p0 p1 p2 p3 p4 p5 q0 q1 q2 q3 : Pos} {oc ct doc pm : Value} {an od : Option Addr} {osl : Array (Option Value)}
    (lk : K.lookup fI = some ⟨oc, od, .func (fnX name qual params [.Expr (.Call (.Attribute (.Call (.Name "super" p0) [] [] p1) "__init__" p2) [.Name x p3] [] p4) p5, .Assign [.Attribute (.Name "self" q0) x q1] (.Name x q2) q3] scope [("__class__", cc)] .none .none doc pm an (.ref cda) ct), osl⟩)
    (I : IniC P K mg C fI cda cc qual params scope ["self", x, "__class__"] ["self", x] (.Name x p3) [] p0 p1 p2 p4 p5) (hf : findIn K (.ref C) x = some none) (hdx : (x == ("__debug__" : Str)) = false) (hdc : (x == ("__classdict__" : Str)) = false)
    (hsw : ∀ env : Env, swapsWith (.Name x q2) (some (.Attribute (.Name "self" q0) x q1)) q3.line env = pure false) :
    FnOk P w K mg base CX0 (k + 1) fI (fnX name qual params [.Expr (.Call (.Attribute (.Call (.Name "super" p0) [] [] p1) "__init__" p2) [.Name x p3] [] p4) p5, .Assign [.Attribute (.Name "self" q0) x q1] (.Name x q2) q3] scope [("__class__", cc)] .none .none doc pm an (.ref cda) ct) ["self", x] (spI1 C x) := by
  obtain ⟨ccl, cdd, cvs, ccs, file, tf, c1, c2, c3⟩ := I.hcode
  obtain ⟨cl, cld, csl, c4⟩ := I.hcell
  obtain ⟨ar, a1, a2⟩ := I.hp
  refine init_okG I.T lk I.hcd c1 c2 c3 c4 I.hsm I.S a1 a2 I.hnd I.hks I.htop I.hst I.hpl (fun us A L s1 Q E hl hns q => ?_) I.hev I.hsw I.hin (fun vs H Q E ⟨a, v, e1, e2, _⟩ => ⟨by rw [e1]; rfl, by simp, a, [v], e1, e2⟩) fun A outer s H vs Q E ⟨a, v, e1, e2, q⟩ => ?_
  · match us, hl with
    | [u0, u1], _ =>
      have nd : x ≠ "self" := fun e => by
        have := I.hnd
        rw [e] at this
        simp at this
      refine PyProof.Rows.spliced_more ?_
      refine wpAny_Name (wpAny_loadName_local I.S.kind (I.S.par x (by simp)) hns (zip_look (i := 1) I.hnd rfl rfl) ?_) hdx
      exact spliced_none q
  · refine ⟨_, pss_one (ps_ost (pe_var (i := 0) rfl (.inl (I.S.par "self" (by simp)))) (pe_var (i := 1) rfl (.inl (I.S.par x (by simp))) hdx hdc) (hsw _)), ?_⟩
    subst e1
    refine ⟨v, rfl, .ref a, rfl, a, C, rfl, I.T.T, hf, .inl ⟨e2, fun dx n1 n2 => q dx n1 n2⟩⟩
end
end DL
set_option Elab.async false
set_option linter.all false
set_option maxRecDepth 100000
set_option maxHeartbeats 4000000
namespace DL
open PySem PySem.Spec PyProof.Rows L2
variable [Tb]
abbrev XNames := List (Str × Addr)
/-- a class of the list -/
def ExcR (K : PySem.W.Frag) (TL : XNames) (G : Hp) (cls : Value) (d : Option Addr) (x : PyData) : Prop := ExcAt K G cls d x ∧ ∃ n C, (n, C) ∈ TL ∧ cls = .ref C
def wxOf (K : PySem.W.Frag) (TL : XNames) (B G : Hp) (rt : PyData → DS → Prop) : WX := fun cls d σ H => ∃ G' δ' x, rt x δ' ∧ Same G G' ∧ Rel K B G' δ' σ H ∧ ExcR K TL G' cls d x
theorem wx_mono {K : PySem.W.Frag} {TL : XNames} {B G G' : Hp} {rt : PyData → DS → Prop} (s : Same G G') : ∀ c d σ H, wxOf K TL B G' rt c d σ H → wxOf K TL B G rt c d σ H := fun c d σ H ⟨G2, δ', x, h1, h2, h3, h4⟩ => ⟨G2, δ', x, h1, s.trans h2, h3, h4⟩
structure EndsX (X : Cx) (TL : XNames) (B G : Hp) (E : DEnds) (D : Ends) : Prop extends EndsOk X.K B G E D where
  tk : L2N.Takes X (wxOf X.K TL B G E.rt)
theorem EndsX.mono {X : Cx} {TL : XNames} {B G G' : Hp} {E : DEnds} {D : Ends} (h : EndsX X TL B G E D) (s : Same G G') : EndsX X TL B G' E D := ⟨h.toEndsOk.mono s, h.tk.imp (wx_mono s)⟩
def upSX (X : Cx) (TL : XNames) (w : DTS) : TS := fun D σ H => ∃ B G δ E, Rel X.K B G δ σ H ∧ w E δ ∧ EndsX X TL B G E D
abbrev JSX (X : Cx) (TL : XNames) (st : Stmt) (w : DTS) : Prop := PS X st (upSX X TL w)
abbrev JSsX (X : Cx) (TL : XNames) (st : List Stmt) (w : DTS) : Prop := PSs X st (upSX X TL w)
/-- expressions that may raise: Z is what is wished of an exception -/
abbrev DEX := DS → (Opd → DS → Prop) → (PyData → DS → Prop) → Prop
abbrev DAX := DS → (List Opd → DS → Prop) → (PyData → DS → Prop) → Prop
def upX (X : Cx) (TL : XNames) (w : DEX) : TE := fun σ H Q => ∃ B G δ R Z, Rel X.K B G δ σ H ∧ w δ R Z ∧ (∀ v H' G' o δ', R o δ' → Same G G' → Rel X.K B G' δ' σ H' → OpdOk X.K G' σ v o → Q v H') ∧ L2N.Takes X (wxOf X.K TL B G Z)
def upAX (X : Cx) (TL : XNames) (w : DAX) : TA := fun σ H Q => ∃ B G δ R Z, Rel X.K B G δ σ H ∧ w δ R Z ∧ (∀ vs H' G' os δ', R os δ' → Same G G' → Rel X.K B G' δ' σ H' → OpdsOk X.K G' σ vs os → Q vs H') ∧ L2N.Takes X (wxOf X.K TL B G Z)
abbrev JEX (X : Cx) (TL : XNames) (e : Expr) (w : DEX) : Prop := PE X e (upX X TL w)
abbrev JAX (X : Cx) (TL : XNames) (es : List Expr) (w : DAX) : Prop := PA X es (upAX X TL w)
section
variable {X : Cx} {TL : XNames} {st : Stmt} {rest es : List Stmt} {e : Expr} {pos : Pos}
theorem jsx_of {w : DTS} (h : JS X st w) : JSX X TL st w := ps_le h fun pins s σ H D I ⟨B, G, δ, E, rel, hw, k⟩ => ⟨B, G, δ, E, rel, hw, k.toEndsOk⟩
theorem jssx_of {w : DTS} (h : JSs X rest w) : JSsX X TL rest w := pss_le h fun pins s σ H D I ⟨B, G, δ, E, rel, hw, k⟩ => ⟨B, G, δ, E, rel, hw, k.toEndsOk⟩
theorem jssx_cons {t u : DTS} (h1 : JSX X TL st t) (h2 : JSsX X TL rest u) : JSsX X TL (st :: rest) (wSeq t u) := pss_le (pss_cons h1 h2) fun pins s σ H D I ⟨B, G, δ, E, rel, hw, k⟩ =>
  ⟨B, G, δ, _, rel, hw, ⟨fun σ' H' G' δ' r s1 rel1 => ⟨B, G', δ', E, rel1, r, k.mono s1⟩, k.rt, k.bk, k.ct⟩, k.tk⟩
theorem jssx_one {t : DTS} (h : JSX X TL st t) : JSsX X TL [st] t := pss_one h
theorem jsx_if {c : Expr} {p q : List Stmt} {tc : DT} {t u : DTS} (hc : JT X c tc) (hp : JSsX X TL p t) (hq : JSsX X TL q u) : JSX X TL (.If c p q pos) (wIf tc t u) := ps_le (ps_if hc hp hq) fun pins s σ H D I ⟨B, G, δ, E, rel, hw, k⟩ => ⟨B, G, δ, _, rel, hw, fun b H1 G1 δ1 r1 s1 rel1 => by
  cases b with
  | true => rw [if_pos rfl] at r1 ⊢; exact ⟨B, G1, δ1, E, rel1, r1, k.mono s1⟩
  | false => rw [if_neg Bool.false_ne_true] at r1 ⊢; exact ⟨B, G1, δ1, E, rel1, r1, k.mono s1⟩⟩
theorem takes_no : L2N.Takes X (fun _ _ _ _ => False) := fun _ _ ⟨_, _, _, _, _, _, _, _, _, _, _, _, _, _, _, _, w⟩ => w.elim
/-- where nothing is raised -/
theorem je_ofX {w : DEX} (h : JEX X TL e w) : JE X e (fun δ R => w δ R fun _ _ => False) := pe_le h fun pins s σ H Q I ⟨B, G, δ, R, rel, hw, k⟩ => ⟨B, G, δ, R, _, rel, hw, k, takes_no.imp fun c d σ H ⟨_, _, _, q, _⟩ => q⟩
def axNil : DAX := fun δ R _ => R [] δ
def axCons (w : DEX) (r : DAX) : DAX := fun δ R Z => w δ (fun o δ1 => r δ1 (fun os δ2 => R (o :: os) δ2) Z) Z
def wTupX (w : DAX) : DEX := fun δ R Z => w δ (fun os δ1 => lkL os δ1 fun xs δ2 => xs.length ≤ 1000 ∧ R (.d (.tuple xs)) δ2) Z
def wLstX (w : DAX) : DEX := fun δ R Z => w δ (fun os δ1 => lkL os δ1 fun xs δ2 => xs.length ≤ 1000 ∧ R (.d (.list xs)) δ2) Z
def wRetX (w : DEX) : DTS := fun E δ => w δ (fun o δ1 => lk o δ1 fun x δ2 => E.rt x δ2) E.rt
def wDropX (w : DEX) : DTS := fun E δ => w δ (fun _ δ1 => E.nx δ1) E.rt
def wSetX (i : Nat) (w : DEX) : DTS := fun E δ => w δ (fun o δ1 => lk o δ1 fun x δ2 => E.nx (δ2.set i (.d x))) E.rt
def wAsgGX (w : DEX) (g : DTG) : DTS := fun E δ => w δ (fun o δ1 => lk o δ1 fun x δ2 => g x δ2 E.nx) E.rt
def wIfEX (t : DT) (wa wb : DEX) : DEX := fun δ R Z => t δ fun k δ1 => if k = true then wa δ1 R Z else wb δ1 R Z
abbrev DMk := DS → (PyData → DS → Prop) → Prop
def upMk (K : PySem.W.Frag) (TL : XNames) (w : DMk) : L2.St → Hp → XK → Prop := fun σ H Q => ∃ B G δ Z, Rel K B G δ σ H ∧ w δ Z ∧ ∀ cls d H' G' x δ', Z x δ' → Same G G' → Rel K B G' δ' σ H' → ExcR K TL G' cls d x → Q cls d H'
abbrev JMk (X : Cx) (TL : XNames) (e : Expr) (w : DMk) : Prop := L2N.PMk X e (upMk X.K TL w)
def wRaise (w : DMk) : DTS := fun E δ => w δ E.rt
theorem jsx_raise {w : DMk} (hc : X.calm = true) (he : JMk X TL e w) : JSX X TL (.Raise (some e) none pos) (wRaise w) := ⟨fun pins s σ H D I ⟨B, G, δ, E, rel, hw, k⟩ => (L2N.ps_raise hc k.tk he).run pins s σ H D I
  ⟨B, G, δ, E.rt, rel, hw, fun cls d H' G' x δ' z s1 rel1 ex => ⟨G', δ', x, z, s1, rel1, ex⟩⟩⟩
/-- a class of one's own is called: its instance is made, filled by __init__, and may be raised -/
theorem class_makes {CX : CXT} {C fI : Addr} {k : Nat} {fd : FuncData} {ps : List Str} {sp : Sp} {ds us : List Value} {dvs vs : List V} {pins : List (Addr × Obj)} {σ : L2.St} {H : Hp} {s : Shared} {Q : XK} (T : OexC X.K C)
    (init : PySem.W.findIn X.K (.ref C) "__init__" = some (some (.ref fI))) (isFn : PySem.W.typeIn X.K (.ref fI) = some (.type "function")) (F1 : FnOk X.prog X.w X.K X.mg X.base CX k fI fd ps sp) (room : Room (k + 1) X.A) (binds : Binds X.K fd ps ds) (given : Vals dvs ds)
    (none' : Passes CX X (fun _ _ _ => False)) (I : Inv X pins σ H s) (r : Vals vs us) (few : vs.length ≤ 1000)
    (ask : ∀ a, H a = none → sp (.ref a :: (vs ++ dvs)) (upd H a (exo a C none)) (fun v H2 => v = .non ∧ ∃ (d : Addr) (fs : List (Str × V)), H2 a = some (exo a C (some d)) ∧ H2 d = some (exd d fs) ∧ H d = none ∧ Q (.ref C) (some d) (upd (L2.del H2 a) d (.xd fs))) fun _ _ _ => False) :
    wpAny (model X.prog X.w) X.A (call (.ref C) us) (L2N.MkP X pins σ Q) X.xe s := by
  obtain ⟨hp, gs, dr, tk, os⟩ := s
  obtain ⟨nm, q0, N, bs, bm, sn, sub, ab, col, dd, k0, k1, k2, k3, k5, at_C, refs⟩ := T.cls
  generalize ea : hp.objs.size + 1 = a
  have above : hp.objs.size ≤ a := ea ▸ Nat.le_succ _
  have free : H a = none := I.hok.fresh above
  have kept : ∀ b o, hp.get? b = some o → ((hp.push (PySem.W.kdv_tup us)).push (PySem.HandSPX.excO C hp.objs.size)).get? b = some o := fun _ _ e => Heap.get?_push_of_some _ (Heap.get?_push_of_some _ e)
  have J := I.laid (t' := tk) (a := a) (o := exo a C none) kept above (exo_ok (by subst ea; heap_get))
  have args : Vals (V.ref a :: (vs ++ dvs)) (Value.ref a :: (us ++ ds)) := .cons rfl (r.append given)
  have many : (Value.ref a :: us ++ ds).length = ps.length := args.length.symm.trans (F1.len _ _ _ _ (ask a free))
  have small : us.length ≤ sizeLine := r.length ▸ Nat.le_trans few (by decide)
  have run := F1.run _ X.stack _ _ ⟨Value.ref a :: us, []⟩ _ _ _ (fun _ _ _ => False) (room.make C us []) (J.env0.make C us []) (binds _ (Value.ref a :: us) J.kIn many) args (ask a free)
  subst ea
  refine wpAny_call (PySem.HandSPX.call_own F.excBase_ValueError (PySem.HandSPX.refsVE_contains · bm refs) (I.kIn _ _ at_C) (PySem.W.looks_findIn I.kIn init) (PySem.W.bind_fn I.kIn · isFn) small (codeAny_mono run ?_))
  rintro (e | _ | _ | _ | u) ⟨h2, g2, d2, t2, os2⟩ back <;> first | exact none' pins σ _ _ e _ J back | exact False.elim back | skip
  obtain ⟨_, H2, same, bare, un, ok, rv, rfl, d, fs, inst, dict, new, q⟩ := back
  obtain ⟨t0, G, K', old, gone, rec', out⟩ := mk_end0 (d2 := d2) (t2 := t2) I above kept un ok same bare inst dict new
  exact ⟨rv, _, _, _, ⟨G, g2, d2, t2, os2⟩, _, .ref C, some d, rfl, K', old, gone, rec', ⟨rfl, rfl, fun _ e => by cases e; rfl⟩, rfl, rfl, out, rfl, bare, raises_own T.exC T.tyC, q⟩
theorem pmk_class {CX : CXT} {x : Str} {e : Expr} {es : List Expr} {ta : TA} {p pos : Pos} {C fI : Addr} {k : Nat} {fd : FuncData} {ps : List Str} {sp : Sp} (T : OexC X.K C) (init : PySem.W.findIn X.K (.ref C) "__init__" = some (some (.ref fI))) (isFn : PySem.W.typeIn X.K (.ref fI) = some (.type "function"))
    (F : FnOk X.prog X.w X.K X.mg X.base CX k fI fd ps sp) (room : Room (k + 1) X.A) (binds : Binds X.K fd ps []) (none' : Passes CX X (fun _ _ _ => False)) (hg : Gl X x) (hm : X.mg x = some (.ref C)) (ha : PA X (e :: es) ta) (hdb : (x == ("__debug__" : Str)) = false)
    (he : starEach (e :: es) X.env = (false, eval e X.env) :: starEach es X.env) (hpl : (backTo pos (starEach es X.env)).any (·.1) = false) : L2N.PMk X (.Call (.Name x p) (e :: es) [] pos) (tMkO C sp [] ta) := fun pins s σ H Q I h =>
  wpAny_Call_Name_kw (ld_glob I hg hm (PySem.W.callWith_K (h₀ := X.base) I.ok.mod.kin T.kC (wpAny_mono (ha.run pos pins s σ H _ I h) (fun us _ ⟨_, _, I1, r, few, ask⟩ => ⟨I1.kIn, class_makes T init isFn F room binds .nil none' I1 r few ask⟩) fun _ _ z => z) he hpl) hdb)
/-- C(e): one field -/
def wMk1 (n f : Str) (w : DA) : DMk := fun δ Z => w δ fun os δ1 => lkL os δ1 fun xs δ2 => ∃ x, xs = [x] ∧ Z (excD n [(f, x)]) δ2
theorem jmk1 {x n f : Str} {e : Expr} {es : List Expr} {wa : DA} {p pos : Pos} {C fI : Addr} {k : Nat} {fd : FuncData} {ps : List Str} (hT : (n, C) ∈ TL) (hn : (PySem.W.clsIn X.K C).map (·.name) = some n) (T : OexC X.K C) (iC : PySem.W.findIn X.K (.ref C) "__init__" = some (some (.ref fI))) (tI : PySem.W.typeIn X.K (.ref fI) = some (.type "function"))
    (F1 : FnOk X.prog X.w X.K X.mg X.base CX0 k fI fd ps (spI1 C f)) (hr : Room (k + 1) X.A) (hb : Binds X.K fd ps []) (hg : Gl X x) (hm : X.mg x = some (.ref C)) (ha : JA X (e :: es) wa) (hdb : (x == ("__debug__" : Str)) = false := by decide)
    (he : starEach (e :: es) X.env = (false, eval e X.env) :: starEach es X.env := by rfl) (hpl : (backTo pos (starEach es X.env)).any (·.1) = false := by rfl) :
    JMk X TL (.Call (.Name x p) (e :: es) [] pos) (wMk1 n f wa) := fun pins s σ H Q I ⟨B, G, δ, Z, rel, hw, k⟩ => pmk_class T iC tI F1 hr hb pass0 hg hm ha hdb he hpl pins s σ H Q I ⟨B, G, δ, _, rel, hw, fun vs H1 G1 os δ1 r1 s1 rel1 ok1 => by
  obtain ⟨G2, δ2, xs, ⟨y, rfl, q⟩, s2, rel2, t⟩ := lkL_ok rel1 ok1 r1
  obtain ⟨v, rfl, dv⟩ := t.one
  refine ⟨by simp, fun a na => ⟨a, v, rfl, upd_same, fun dx n1 n2 => ⟨rfl, dx, [(f, v)], upd_same, by rw [upd_ne n2, upd_same], by rw [upd_ne n2] at n1; exact n1, ?_⟩⟩⟩
  have n1' : H1 dx = none := by rw [upd_ne n2] at n1; exact n1
  have eh : upd (L2.del (upd (upd (upd H1 a (exo a C none)) dx (exd dx [(f, v)])) a (exo a C (some dx))) a) dx (.xd [(f, v)]) = upd H1 dx (.xd [(f, v)]) := by
    funext b
    by_cases h1 : b = dx
    · rw [h1, upd_same, upd_same]
    · rw [upd_ne h1, upd_ne h1]
      by_cases h2 : b = a
      · rw [h2, L2.del_same, na]
      · rw [L2.del_ne h2, upd_ne h2, upd_ne h1, upd_ne h2]
  rw [eh]
  obtain ⟨rel3, s3⟩ := rel2.laid (o := .xd [(f, v)]) n1'
  exact k _ _ _ _ _ _ q (s1.trans (s2.trans s3)) rel3 ⟨⟨n, C, [(f, y)], rfl, rfl, hn, .inl ⟨dx, _, rfl, upd_same, rfl, .cons (dv.mono s3) .nil⟩⟩, n, C, hT, rfl⟩⟩
/-- C(e, e2): two fields -/
def wMk2 (n f g : Str) (w : DA) : DMk := fun δ Z => w δ fun os δ1 => lkL os δ1 fun xs δ2 => ∃ x y, xs = [x, y] ∧ Z (excD n [(g, y), (f, x)]) δ2
end
end DL
set_option Elab.async false
set_option linter.all false
set_option maxRecDepth 100000
set_option maxHeartbeats 4000000
namespace DL
open PySem PySem.Spec PyProof.Rows L2
variable [Tb]
def notX (x : PyData) : Prop := ∀ n fs, x ≠ excD n fs
def onX (x : PyData) (k : PyData → Prop) (kx : Str → List (Str × PyData) → Prop) (_u : Stop (k, kx)) : Prop := (∀ n fs, x = excD n fs → kx n fs) ∧ (notX x → k x)
theorem excD_inj {n m : Str} {fs gs : List (Str × PyData)} (h : excD n fs = excD m gs) : n = m ∧ fs = gs := by
  unfold excD at h
  simp only [PyData.dict.injEq, List.cons.injEq, Prod.mk.injEq, PyData.str.injEq, and_true] at h
  obtain ⟨h1, h2⟩ := h
  refine ⟨h1, ?_⟩
  refine (List.map_inj_right ?_).mp h2
  rintro ⟨a, b⟩ ⟨c, d⟩ e
  simp only [Prod.mk.injEq, PyData.str.injEq] at e
  exact Prod.ext e.1 e.2
theorem onX_yes {n : Str} {fs : List (Str × PyData)} {k : PyData → Prop} {kx : Str → List (Str × PyData) → Prop} {u : Stop (k, kx)} (h : onX (excD n fs) k kx u) : kx n fs := h.1 n fs rfl
theorem onX_no {x : PyData} {k : PyData → Prop} {kx : Str → List (Str × PyData) → Prop} {u : Stop (k, kx)} (h : onX x k kx u) (hn : notX x) : k x := h.2 hn
omit [Tb] in
@[simp ↓] theorem onX_exc (n : Str) (fs : List (Str × PyData)) (k : PyData → Prop) (kx : Str → List (Str × PyData) → Prop) (u : Stop (k, kx)) : onX (excD n fs) k kx u = kx n fs := propext ⟨onX_yes, fun h => ⟨fun m gs e => by
  obtain ⟨rfl, rfl⟩ := excD_inj e
  exact h, fun hn => absurd rfl (hn n fs)⟩⟩
theorem onX_of {x : PyData} {k : PyData → Prop} {kx : Str → List (Str × PyData) → Prop} {u : Stop (k, kx)} (hn : notX x) : onX x k kx u = k x := propext ⟨fun h => h.2 hn, fun h => ⟨fun n fs e => absurd e (hn n fs), fun _ => h⟩⟩
theorem notX_tup (xs : List PyData) : notX (.tuple xs) := fun n fs e => by cases e
theorem notX_list (xs : List PyData) : notX (.list xs) := fun n fs e => by cases e
theorem notX_int (i : Int) : notX (.int i) := fun n fs e => by cases e
theorem notX_bool (i : Bool) : notX (.bool i) := fun n fs e => by cases e
theorem notX_str (i : Str) : notX (.str i) := fun n fs e => by cases e
theorem notX_none : notX .none := fun n fs e => by cases e
omit [Tb] in
@[simp ↓] theorem onX_tup (xs : List PyData) (k : PyData → Prop) (kx : Str → List (Str × PyData) → Prop) (u : Stop (k, kx)) : onX (.tuple xs) k kx u = k (.tuple xs) := onX_of (notX_tup xs)
omit [Tb] in
@[simp ↓] theorem onX_list (xs : List PyData) (k : PyData → Prop) (kx : Str → List (Str × PyData) → Prop) (u : Stop (k, kx)) : onX (.list xs) k kx u = k (.list xs) := onX_of (notX_list xs)
omit [Tb] in
@[simp ↓] theorem onX_int (i : Int) (k : PyData → Prop) (kx : Str → List (Str × PyData) → Prop) (u : Stop (k, kx)) : onX (.int i) k kx u = k (.int i) := onX_of (notX_int i)
omit [Tb] in
@[simp ↓] theorem onX_bool (i : Bool) (k : PyData → Prop) (kx : Str → List (Str × PyData) → Prop) (u : Stop (k, kx)) : onX (.bool i) k kx u = k (.bool i) := onX_of (notX_bool i)
omit [Tb] in
@[simp ↓] theorem onX_str (i : Str) (k : PyData → Prop) (kx : Str → List (Str × PyData) → Prop) (u : Stop (k, kx)) : onX (.str i) k kx u = k (.str i) := onX_of (notX_str i)
omit [Tb] in
@[simp ↓] theorem onX_none (k : PyData → Prop) (kx : Str → List (Str × PyData) → Prop) (u : Stop (k, kx)) : onX .none k kx u = k .none := onX_of notX_none
omit [Tb] in
@[simp] theorem notX_tup' (xs : List PyData) : notX (.tuple xs) = True := eq_true (notX_tup xs)
omit [Tb] in
@[simp] theorem notX_list' (xs : List PyData) : notX (.list xs) = True := eq_true (notX_list xs)
omit [Tb] in
@[simp] theorem notX_int' (xs : Int) : notX (.int xs) = True := eq_true (notX_int xs)
omit [Tb] in
@[simp] theorem notX_bool' (xs : Bool) : notX (.bool xs) = True := eq_true (notX_bool xs)
omit [Tb] in
@[simp] theorem notX_str' (xs : Str) : notX (.str xs) = True := eq_true (notX_str xs)
omit [Tb] in
@[simp] theorem notX_none' : notX .none = True := eq_true notX_none
def liftSpX (K : PySem.W.Frag) (TL : XNames) (sp : DSp) : Sp := fun vs H Q E => ∃ B G cs R, Rel K B G cs (vs.map some) H ∧ sp cs R ∧ (∀ v H' G' x cs', R x cs' → Same G G' → Rel K B G' cs' (vs.map some) H' → Dn K G' v x → Q v H') ∧
  ∀ cls d H' G' x cs', R x cs' → Same G G' → Rel K B G' cs' (vs.map some) H' → ExcR K TL G' cls d x → E cls d H'
section
variable {P : Program} {w : World} {K : PySem.W.Frag} {mg : Str → Option Value} {base : Heap}
theorem okX {x qual : Str} {st : Stmt} {f : Addr} {fd : FuncData} {N ps : List Str} {k : Nat} {sp : DSp} {wb : DTS} {TL : XNames} (F : Fun K x qual st f fd) (S : FnScope N ps (defScope st)) (dl : ∀ cs R, sp cs R → cs.length = ps.length)
    (body : ∀ (cdv : Value) (A : Around) (outer : List Env) (s : Shared) (H : Hp) (E : XK), RoomG k (A.deeper (envOfC qual (defScope st) s.heap.objs.size f cdv)) → JSsX (cxOf (L2N.CX P w) P w K mg base N qual (defScope st) f cdv A outer s H E) TL (defBody st) wb)
    (rd : ∀ cs R, sp cs R → wb (endsOf cs R) (start0 N.length cs)) : FnG P w K mg base (L2N.CX P w) (k + 1) f fd ps (liftSpX K TL sp) := by
  obtain ⟨oc, od, kV, doc, pm, an, cdv, ct, osl, rfl, lk, hcd⟩ := F.ex
  refine fnG_of lk hcd S (fun vs H Q E ⟨B, G, cs, R, rel, hs, _⟩ => by rw [← dl cs R hs, ← rel.len, List.length_map]) fun A outer s H vs Q E hr ⟨B, G, cs, R, rel, hs, k, kx⟩ => ?_
  refine ⟨_, body cdv A outer s H E hr, B, G, _, endsOf cs R, rel_start rel, rd cs R hs, ⟨fun σ' H' G' δ' ⟨io, r⟩ sG rel' => k _ H' G' _ _ r sG (rel_end rel rel' sG io) .non, fun v σ' H' G' x δ' ⟨io, r⟩ sG rel' dn => k v H' G' x _ r sG (rel_end rel rel' sG io) dn, fun _ _ _ _ h => h.elim, fun _ _ _ _ h => h.elim⟩, ?_⟩
  refine (L2N.takes_of (E := E) rfl rfl rfl rfl).imp fun cls d σ' H' ⟨G', δ', x, ⟨io, r⟩, sG, rel', ex⟩ => ?_
  exact kx cls d H' G' x _ r sG (rel_end rel rel' sG io) ex
end
section
variable {X : Cx} {TL : XNames} {CX : CXT} {k : Nat} {f : Addr} {fd : FuncData} {ps : List Str} {x : Str} {p pos : Pos} {e : Expr} {es : List Expr}
theorem run_fnGS {sp : Sp} {E : L2.St → XK} {pins : List (Addr × Obj)} {σ : L2.St} {H : Hp} {s : Shared} {Q : VK} {us : List Value} {vs : List V} (F : FnG X.prog X.w X.K X.mg X.base CX k f fd ps sp) (hr : RoomG k X.A) (hb : Binds X.K fd ps []) (hx : PassesAt CX X σ (E σ))
    (I : Inv X pins σ H s) (r : Vals vs us) (h : sp vs H Q (E σ)) : wpAny (model X.prog X.w) X.A (call (.ref f) us) (EP X pins σ Q) X.xe s := by
  have many : (us ++ []).length = ps.length := (List.append_nil us).symm ▸ r.length.symm.trans (F.len _ _ _ _ h)
  have bound : BindsTo s fd ⟨us, []⟩ (ps.zip us) := by have := hb s us I.kIn many; rwa [List.append_nil] at this
  refine wpAny_call (codeAny_mono (F.run X.A X.stack s H ⟨us, []⟩ us vs Q (E σ) hr I.env0 bound r h) ?_)
  rintro (err | _ | _ | _ | u) z back <;> first | exact hx pins H s err z I back | exact False.elim back | exact I.after back
theorem pe_callGS {sp : Sp} {E : L2.St → XK} {t : TA} (F : FnG X.prog X.w X.K X.mg X.base CX k f fd ps sp) (hr : RoomG k X.A) (hg : Gl X x) (hm : X.mg x = some (.ref f)) (hk : PySem.W.keepIn X.K (.ref f) = true) (hb : Binds X.K fd ps []) (hx : ∀ σ, PassesAt CX X σ (E σ))
    (ha : PA X (e :: es) t) (hdb : (x == ("__debug__" : Str)) = false := by decide) (he : starEach (e :: es) X.env = (false, eval e X.env) :: starEach es X.env := by rfl) (hpl : (backTo pos (starEach es X.env)).any (·.1) = false := by rfl) : PE X (.Call (.Name x p) (e :: es) [] pos) (tCallS sp E t) := by
  exact ⟨fun pins s σ H Q I h => wpAny_Call_Name_kw (ld_glob I hg hm (PySem.W.callWith_K (h₀ := X.base) I.ok.mod.kin hk (wpAny_mono (ha.run pos pins s σ H _ I h)
    (fun us z ⟨vs, H1, I1, r, q⟩ => ⟨I1.kIn, run_fnGS F hr hb (hx σ) I1 r q⟩) fun _ _ z => z) he hpl) hdb)⟩
def wCallX (m : List Bool) (sp : DSp) (w : DAX) : DEX := fun δ R Z => w δ (fun os δ1 => lkM m os δ1 fun os' δ2 => (slotsOf os').Nodup ∧ sp (os'.map (cellOf δ2)) fun x cs => onX x (fun x => R (.d x) (putBack os' cs δ2)) (fun n fs => Z (excD n fs) (putBack os' cs δ2)) .mk) Z
theorem dn_notX {K : PySem.W.Frag} {G : Hp} {v : V} {n : Str} {fs : List (Str × PyData)} (h : Dn K G v (excD n fs)) : False := by cases h
theorem jex_call {m : List Bool} {sp : DSp} {w : DAX} (F : FnG X.prog X.w X.K X.mg X.base (L2N.CX X.prog X.w) k f fd ps (liftSpX X.K TL sp)) (hr : RoomG k X.A) (hg : Gl X x) (hm : X.mg x = some (.ref f)) (hk : PySem.W.keepIn X.K (.ref f) = true) (hb : Binds X.K fd ps [])
    (ha : JAX X TL (e :: es) w) (hdb : (x == ("__debug__" : Str)) = false := by decide) (he : starEach (e :: es) X.env = (false, eval e X.env) :: starEach es X.env := by rfl) (hpl : (backTo pos (starEach es X.env)).any (·.1) = false := by rfl) : JEX X TL (.Call (.Name x p) (e :: es) [] pos) (wCallX m sp w) :=
  ⟨fun pins s σ H Q I ⟨B, G, δ, R, Z, rel, hw, k, tk⟩ => (pe_callGS (E := WE (wxOf X.K TL B G Z)) F hr hg hm hk hb (L2N.passAt tk) ha hdb he hpl).run pins s σ H Q I ⟨B, G, δ, _, Z, rel, hw, fun vs H1 G1 os δ1 r1 s1 rel1 ok1 => by
    obtain ⟨G2, δ2, os', ⟨nd, q⟩, s2, rel2, ok2⟩ := lkM_ok rel1 ok1 r1
    refine ⟨_, G2, _, _, call_rel rel2 ok2 nd, q, fun v H' G' z cs r s3 rel3 dn => k v H' G' _ _ (onX_no r fun n fs e => by rw [e] at dn; exact dn_notX dn) (s1.trans (s2.trans s3)) (call_back rel2 ok2 nd s3 rel3) dn, fun cls d H' G' z cs r s3 rel3 ex => ?_⟩
    obtain ⟨⟨n, C, fs, rfl, h2⟩, h3⟩ := ex
    exact ⟨G', _, _, onX_yes r, s1.trans (s2.trans s3), call_back rel2 ok2 nd s3 rel3, ⟨⟨n, C, fs, rfl, h2⟩, h3⟩⟩, tk⟩⟩
def xE (w : DE) : DEX := fun δ R _ => w δ R
def xA (w : DA) : DAX := fun δ R _ => w δ R
def nX (w : DEX) : DE := fun δ R => w δ R fun _ _ => False
theorem jxa {es : List Expr} {w : DA} (h : JA X es w) : JAX X TL es (xA w) := pa_le h fun pins s σ H Q I ⟨B, G, δ, R, Z, rel, hw, k, tk⟩ => ⟨B, G, δ, R, rel, hw, k⟩
theorem jnx {w : DEX} (h : JEX X TL e w) : JE X e (nX w) := je_ofX h
/-- a statement out of which nothing comes -/
def noXE (E : DEnds) : DEnds := { E with rt := fun x δ' => notX x ∧ E.rt x δ' }
def wNoX (w : DTS) : DTS := fun E δ => w (noXE E) δ
end
def hndE (i : Nat) (E : DEnds) : DEnds := { nx := fun δ2 => E.nx (δ2.set i .em), rt := fun y δ2 => E.rt y (δ2.set i .em), bk := fun δ2 => E.bk (δ2.set i .em), ct := fun δ2 => E.ct (δ2.set i .em) }
def tryE (i : Nat) (cat : Str → Bool) (wh : Addr → Value → Option Addr → DTS) (E : DEnds) : DEnds := { nx := E.nx, bk := E.bk, ct := E.ct, rt := fun x δ' => onX x (fun x => E.rt x δ') (fun n fs => if cat n = true then ∀ (a : Addr) (cls : Value) (d : Option Addr), wh a cls d (hndE i E) (δ'.set i (.xc a cls d (excD n fs))) else E.rt (excD n fs) δ') .mk }
def wTry (i : Nat) (cat : Str → Bool) (wb : DTS) (wh : Addr → Value → Option Addr → DTS) : DTS := fun E δ => wb (tryE i cat wh E) δ
section
variable {X : Cx} {TL : XNames}
end
end DL
set_option Elab.async false
set_option linter.all false
set_option maxRecDepth 100000
set_option maxHeartbeats 4000000
namespace DL
open PySem PySem.Spec PyProof.Rows L2
variable [Tb]
section
open PySem.W PySem.Calls
variable {prog : Program} {w : World} {A : Around} {E : Value → Shared → Prop} {s : Shared} {K : Frag} {x D : Addr} {ox : Obj}
/-- `x.__class__` of an instance, by the descriptor that the root class gives, is the instance's class -/
structure ClsBy (K : Frag) (D : Addr) : Prop where
  get : findIn K (.ref D) "__getattribute__" = some (some (.builtin "BaseException.__getattribute__"))
  no : findIn K (.ref D) "__getattr__" = some none
  exc : subIn K (.ref D) (.type "BaseException") = some true
  dict : hasDictIn K D = true
  attr : findIn K (.ref D) "__class__" = some (some (.builtin "object.__class__"))
  desc : specialIn K (.builtin "object.__class__") "__get__" = some (some (.builtin "getset_descriptor.__get__"))
  takes : takesIn K (.builtin "object.__class__") = some true
  root : mroIn K D (.type "object") = some true
variable {od : Option Obj}
theorem ClsBy.cls (c : ClsBy K D) : ∃ cd, clsIn K D = some cd := (any_some c.dict).imp fun _ z => z.1
theorem ClsBy.found (c : ClsBy K D) : findObj K D od "__class__" = some (.bind (.builtin "getset_descriptor.__get__") (.builtin "object.__class__")) := by
  obtain ⟨cd, e⟩ := c.cls
  simp [findObj, e, c.attr, c.desc, c.takes]
section
variable {t : Nat} {Q : Fin → Shared → Prop}
theorem ClsBy.root_get (c : ClsBy K D) {tk : Tok} {s : Shared} (X : K.In s.heap) (I : InstAt s.heap x ox D od) (h : Q (.done (.ret (.ref D))) s) : wpAny (model prog w) A (Builtin.«object.__getattribute__» ⟨[.ref x, .str "__class__" tk], []⟩) Q E s := by
  obtain ⟨hp, gs, dr, tk0, os⟩ := s
  have type := I.type (M := model prog w)
  have find := looks_find (M := model prog w) X I c.found
  have desc : wpAny (model prog w) A (holding [Value.builtin "object.__class__"] (call (.builtin "getset_descriptor.__get__") [.builtin "object.__class__", .ref x, .ref D]) >>= ret) Q E ⟨hp, gs, dr, tk0, os⟩ := by
    refine wpAny_bind (wpAny_holding (wpAny_call (class_get (s := ⟨hp, gs, dr, tk0, os⟩) (ox := ox) (od := od) X I c.root ?_)))
    exact wpAny_pure h
  delta Builtin.«object.__getattribute__»
  exact wpAny_bind (wpAny_of_eq (a := ((Value.ref x : Value), [Value.str "__class__" tk])) (by simp only [slotArgs]; rfl) (wpAny_bind (wpAny_pure (wpAny_bind (type.at (wpAny_bind (find.at desc)))))))
end
section
variable {Q : Option Value → Shared → Prop}
theorem ClsBy.tells (c : ClsBy K D) (X : K.In s.heap) (I : InstAt s.heap x ox D od) (h : Q (some (.ref D)) { s with toks := s.toks + 1 }) : wpAny (model prog w) A (getAttr? (.ref x) "__class__") Q E s := by
  obtain ⟨hp, gs, dr, tk, os⟩ := s
  have type := I.type (M := model prog w)
  have isExc : Looks (model prog w) hp (isInstance (.ref x) (.type "BaseException")) true := type.andThen (looks_subIn X c.exc)
  have other : (Value.builtin "BaseException.__getattribute__" == Value.builtin "object.__getattribute__") = false := by decide +kernel
  have by_base {G E' : Value → Shared → Prop} {A' : Around} (g : G (.ref D) ⟨hp, gs, dr, tk + 1, os⟩) : wpAny (model prog w) A' (call (.builtin "BaseException.__getattribute__") [.ref x, .str "__class__" tk]) G E' ⟨hp, gs, dr, tk + 1, os⟩ :=
    wpAny_call (codeAny_call_builtin PySem.F.excAttr_ValueError.ga.plain PySem.F.entry_bexc_ga (@check_slot (model prog w) _ _ ⟨hp, gs, dr, tk + 1, os⟩ "BaseException.__getattribute__" "BaseException" "__getattribute__" (.ref x) [.str "__class__" tk] [] _ (by decide +kernel) (by decide +kernel) isExc
      (PySem.F.args_bexc_ga (.ref x) (.str "__class__" tk)) (c.root_get X I g)))
  have look1 := looks_findIn (M := model prog w) X c.get
  have look2 := looks_findIn (M := model prog w) X c.no
  delta getAttr? getAttrBy? getAttrBy
  refine wpAny_bind (wpAny_mkText (wpAny_bind (wpAny_attempt (wpAny_holding (wpAny_bind (type.at (wpAny_bind (look1.at (wpAny_ite_false (by rw [other, Bool.and_false]; rfl) ?_)))))))))
  delta getAttrByItsOwn hookBefore
  refine wpAny_bind (wpAny_ite_true (by rfl) (look2.at (wpAny_bind (wpAny_attempt (wpAny_holding ?_)))))
  delta callGetattribute
  refine wpAny_ite_false (by rfl) ?_
  delta boundAndCalled
  rw [PySem.F.excAttr_ValueError.ga.bind (.ref x)]
  refine wpAny_bind (wpAny_pure (show wpAny _ _ (call (.builtin "BaseException.__getattribute__") [.ref x, .str "__class__" tk]) _ _ _ from by_base ?_))
  show wpAny _ _ (handedOut (.ref D)) _ _ _
  rw [handedOut_of (v := .ref D) rfl]
  exact wpAny_pure (wpAny_pure h)
end
end
def xfC (c : Option Cell) (a : Addr) (cls : Value) (d : Option Addr) (f : Str) (k : PyData → Prop) (_u : Stop k) : Prop := ∃ n fs y, c = some (.xc a cls d (excD n fs)) ∧ fs.lookup f = some y ∧ k y
def wXf (a : Addr) (cls : Value) (d : Option Addr) (i : Nat) (f : Str) : DE := fun δ R => xfC δ[i]? a cls d f (fun y => R (.d y) δ) .mk
def isxC (c : Option Cell) (a : Addr) (cls : Value) (d : Option Addr) (k : Str → Prop) (_u : Stop k) : Prop := ∃ n fs, c = some (.xc a cls d (excD n fs)) ∧ k n
def wIsx (a : Addr) (cls : Value) (d : Option Addr) (i : Nat) (isin : Str → Bool) : DE := fun δ R => isxC δ[i]? a cls d (fun n => R (.d (.bool (isin n))) δ) .mk
omit [Tb] in
@[simp ↓] theorem wXf_ap (a : Addr) (cls : Value) (d : Option Addr) (i : Nat) (f : Str) (δ : DS) (R : Opd → DS → Prop) : wXf a cls d i f δ R = xfC δ[i]? a cls d f (fun y => R (.d y) δ) .mk := rfl
omit [Tb] in
@[simp ↓] theorem wIsx_ap (a : Addr) (cls : Value) (d : Option Addr) (i : Nat) (isin : Str → Bool) (δ : DS) (R : Opd → DS → Prop) : wIsx a cls d i isin δ R = isxC δ[i]? a cls d (fun n => R (.d (.bool (isin n))) δ) .mk := rfl
omit [Tb] in
@[simp ↓] theorem isxC_x (a : Addr) (cls : Value) (d : Option Addr) (n : Str) (fs : List (Str × PyData)) (k : Str → Prop) (u : Stop k) : isxC (some (.xc a cls d (excD n fs))) a cls d k u = k n := propext ⟨fun ⟨m, gs, e, h⟩ => by
  simp only [Option.some.injEq, Cell.xc.injEq, true_and] at e
  obtain ⟨rfl, _⟩ := excD_inj e
  exact h, fun h => ⟨n, fs, rfl, h⟩⟩
theorem xfC_of {a : Addr} {cls : Value} {d : Option Addr} {n f : Str} {fs : List (Str × PyData)} {y : PyData} {k : PyData → Prop} {u : Stop k} (hl : fs.lookup f = some y) : xfC (some (.xc a cls d (excD n fs))) a cls d f k u = k y := propext ⟨fun ⟨m, gs, z, e, l, h⟩ => by
  simp only [Option.some.injEq, Cell.xc.injEq, true_and] at e
  obtain ⟨_, rfl⟩ := excD_inj e
  rw [hl] at l
  cases l
  exact h, fun h => ⟨n, fs, y, rfl, hl, h⟩⟩
omit [Tb] in
@[simp ↓] theorem xfC_1 (a : Addr) (cls : Value) (d : Option Addr) (n f : Str) (y : PyData) (k : PyData → Prop) (u : Stop k) : xfC (some (.xc a cls d (excD n [(f, y)]))) a cls d f k u = k y := xfC_of (by simp)
section
variable {X : Cx} {TL : XNames} {a : Addr} {oe : Obj} {cls : Value} {d : Option Addr} {pn : List (Addr × Obj)} {pos p : Pos}
/-- C(): no field -/
def wMk0 (n : Str) : DMk := fun δ Z => Z (excD n []) δ
end
end DL
set_option Elab.async false
set_option linter.all false
set_option maxRecDepth 100000
set_option maxHeartbeats 4000000
namespace DL
open PySem PySem.Spec PyProof.Rows L2
variable [Tb]
omit [Tb] in
@[simp ↓] theorem tryE_nx (i : Nat) (cat : Str → Bool) (wh : Addr → Value → Option Addr → DTS) (E : DEnds) : (tryE i cat wh E).nx = E.nx := rfl
omit [Tb] in
@[simp ↓] theorem tryE_bk (i : Nat) (cat : Str → Bool) (wh : Addr → Value → Option Addr → DTS) (E : DEnds) : (tryE i cat wh E).bk = E.bk := rfl
omit [Tb] in
@[simp ↓] theorem tryE_ct (i : Nat) (cat : Str → Bool) (wh : Addr → Value → Option Addr → DTS) (E : DEnds) : (tryE i cat wh E).ct = E.ct := rfl
theorem tryE_rt (i : Nat) (cat : Str → Bool) (wh : Addr → Value → Option Addr → DTS) (E : DEnds) (x : PyData) (δ' : DS) : (tryE i cat wh E).rt x δ' = onX x (fun x => E.rt x δ') (fun n fs => if cat n = true then ∀ (a : Addr) (cls : Value) (d : Option Addr), wh a cls d (hndE i E) (δ'.set i (.xc a cls d (excD n fs))) else E.rt (excD n fs) δ') .mk := rfl
omit [Tb] in
@[simp ↓] theorem tryE_rtX (i : Nat) (cat : Str → Bool) (wh : Addr → Value → Option Addr → DTS) (E : DEnds) (n : Str) (fs : List (Str × PyData)) (δ' : DS) : (tryE i cat wh E).rt (excD n fs) δ' = if cat n = true then ∀ (a : Addr) (cls : Value) (d : Option Addr), wh a cls d (hndE i E) (δ'.set i (.xc a cls d (excD n fs))) else E.rt (excD n fs) δ' := by rw [tryE_rt, onX_exc]
theorem tryE_rtN {i : Nat} {cat : Str → Bool} {wh : Addr → Value → Option Addr → DTS} {E : DEnds} {x : PyData} {δ' : DS} (h : notX x) : (tryE i cat wh E).rt x δ' = E.rt x δ' := by rw [tryE_rt, onX_of h]
omit [Tb] in
@[simp ↓] theorem tryE_rt_tup (i : Nat) (cat : Str → Bool) (wh : Addr → Value → Option Addr → DTS) (E : DEnds) (xs : List PyData) (δ' : DS) : (tryE i cat wh E).rt (.tuple xs) δ' = E.rt (.tuple xs) δ' := tryE_rtN (notX_tup xs)
omit [Tb] in
@[simp ↓] theorem tryE_rt_list (i : Nat) (cat : Str → Bool) (wh : Addr → Value → Option Addr → DTS) (E : DEnds) (xs : List PyData) (δ' : DS) : (tryE i cat wh E).rt (.list xs) δ' = E.rt (.list xs) δ' := tryE_rtN (notX_list xs)
omit [Tb] in
@[simp ↓] theorem tryE_rt_bool (i : Nat) (cat : Str → Bool) (wh : Addr → Value → Option Addr → DTS) (E : DEnds) (b : Bool) (δ' : DS) : (tryE i cat wh E).rt (.bool b) δ' = E.rt (.bool b) δ' := tryE_rtN (notX_bool b)
omit [Tb] in
@[simp ↓] theorem hndE_nx (i : Nat) (E : DEnds) (δ : DS) : (hndE i E).nx δ = E.nx (δ.set i .em) := rfl
omit [Tb] in
@[simp ↓] theorem hndE_rt (i : Nat) (E : DEnds) (x : PyData) (δ : DS) : (hndE i E).rt x δ = E.rt x (δ.set i .em) := rfl
omit [Tb] in
@[simp ↓] theorem noXE_nx (E : DEnds) : (noXE E).nx = E.nx := rfl
omit [Tb] in
@[simp ↓] theorem noXE_bk (E : DEnds) : (noXE E).bk = E.bk := rfl
omit [Tb] in
@[simp ↓] theorem noXE_ct (E : DEnds) : (noXE E).ct = E.ct := rfl
omit [Tb] in
@[simp ↓] theorem noXE_rt (E : DEnds) (x : PyData) (δ : DS) : (noXE E).rt x δ = (notX x ∧ E.rt x δ) := rfl
omit [Tb] in
@[simp ↓] theorem wTry_ap (i : Nat) (cat : Str → Bool) (wb : DTS) (wh : Addr → Value → Option Addr → DTS) (E : DEnds) (δ : DS) : wTry i cat wb wh E δ = wb (tryE i cat wh E) δ := rfl
omit [Tb] in
@[simp ↓] theorem wNoX_ap (w : DTS) (E : DEnds) (δ : DS) : wNoX w E δ = w (noXE E) δ := rfl
omit [Tb] in
@[simp ↓] theorem wRetX_ap (w : DEX) (E : DEnds) (δ : DS) : wRetX w E δ = w δ (fun o δ1 => lk o δ1 fun x δ2 => E.rt x δ2) E.rt := rfl
omit [Tb] in
@[simp ↓] theorem wDropX_ap (w : DEX) (E : DEnds) (δ : DS) : wDropX w E δ = w δ (fun _ δ1 => E.nx δ1) E.rt := rfl
omit [Tb] in
@[simp ↓] theorem wSetX_ap (i : Nat) (w : DEX) (E : DEnds) (δ : DS) : wSetX i w E δ = w δ (fun o δ1 => lk o δ1 fun x δ2 => E.nx (δ2.set i (.d x))) E.rt := rfl
omit [Tb] in
@[simp ↓] theorem wAsgGX_ap (w : DEX) (g : DTG) (E : DEnds) (δ : DS) : wAsgGX w g E δ = w δ (fun o δ1 => lk o δ1 fun x δ2 => g x δ2 E.nx) E.rt := rfl
omit [Tb] in
@[simp ↓] theorem wRaise_ap (w : DMk) (E : DEnds) (δ : DS) : wRaise w E δ = w δ E.rt := rfl
omit [Tb] in
@[simp ↓] theorem wMk0_ap (n : Str) (δ : DS) (Z : PyData → DS → Prop) : wMk0 n δ Z = Z (excD n []) δ := rfl
omit [Tb] in
@[simp ↓] theorem wMk1_ap (n f : Str) (w : DA) (δ : DS) (Z : PyData → DS → Prop) : wMk1 n f w δ Z = w δ fun os δ1 => lkL os δ1 fun xs δ2 => match xs with
  | [x] => Z (excD n [(f, x)]) δ2
  | _ => False := by
  unfold wMk1
  congr 1; funext os δ1; congr 1; funext xs δ2
  match xs with
  | [] => simp
  | [x] => simp
  | x :: y :: l => simp
omit [Tb] in
@[simp ↓] theorem wMk2_ap (n f g : Str) (w : DA) (δ : DS) (Z : PyData → DS → Prop) : wMk2 n f g w δ Z = w δ fun os δ1 => lkL os δ1 fun xs δ2 => match xs with
  | [x, y] => Z (excD n [(g, y), (f, x)]) δ2
  | _ => False := by
  unfold wMk2
  congr 1; funext os δ1; congr 1; funext xs δ2
  match xs with
  | [] => simp
  | [x] => simp
  | [x, y] => exact propext ⟨fun ⟨a, b, e, h⟩ => by cases e; exact h, fun h => ⟨x, y, rfl, h⟩⟩
  | x :: y :: z :: l => simp
omit [Tb] in
@[simp ↓] theorem axNil_ap (δ : DS) (R : List Opd → DS → Prop) (Z : PyData → DS → Prop) : axNil δ R Z = R [] δ := rfl
omit [Tb] in
@[simp ↓] theorem axCons_ap (w : DEX) (r : DAX) (δ : DS) (R : List Opd → DS → Prop) (Z : PyData → DS → Prop) : axCons w r δ R Z = w δ (fun o δ1 => r δ1 (fun os δ2 => R (o :: os) δ2) Z) Z := rfl
omit [Tb] in
@[simp ↓] theorem xE_ap (w : DE) (δ : DS) (R : Opd → DS → Prop) (Z : PyData → DS → Prop) : xE w δ R Z = w δ R := rfl
omit [Tb] in
@[simp ↓] theorem xA_ap (w : DA) (δ : DS) (R : List Opd → DS → Prop) (Z : PyData → DS → Prop) : xA w δ R Z = w δ R := rfl
def noZ : PyData → DS → Prop := fun _ _ => False
omit [Tb] in
@[simp ↓] theorem nX_ap (w : DEX) (δ : DS) (R : Opd → DS → Prop) : nX w δ R = w δ R noZ := rfl
omit [Tb] in
@[simp ↓] theorem noZ_ap (x : PyData) (δ : DS) : noZ x δ = False := rfl
omit [Tb] in
@[simp ↓] theorem wTupX_ap (w : DAX) (δ : DS) (R : Opd → DS → Prop) (Z : PyData → DS → Prop) : wTupX w δ R Z = w δ (fun os δ1 => lkL os δ1 fun xs δ2 => xs.length ≤ 1000 ∧ R (.d (.tuple xs)) δ2) Z := rfl
omit [Tb] in
@[simp ↓] theorem wLstX_ap (w : DAX) (δ : DS) (R : Opd → DS → Prop) (Z : PyData → DS → Prop) : wLstX w δ R Z = w δ (fun os δ1 => lkL os δ1 fun xs δ2 => xs.length ≤ 1000 ∧ R (.d (.list xs)) δ2) Z := rfl
omit [Tb] in
@[simp ↓] theorem wIfEX_ap (t : DT) (wa wb : DEX) (δ : DS) (R : Opd → DS → Prop) (Z : PyData → DS → Prop) : wIfEX t wa wb δ R Z = t δ fun k δ1 => if k = true then wa δ1 R Z else wb δ1 R Z := rfl
omit [Tb] in
@[simp ↓] theorem wCallX_ap (m : List Bool) (sp : DSp) (w : DAX) (δ : DS) (R : Opd → DS → Prop) (Z : PyData → DS → Prop) : wCallX m sp w δ R Z = w δ (fun os δ1 => lkM m os δ1 fun os' δ2 => (slotsOf os').Nodup ∧ ask sp (os'.map (cellOf δ2)) (fun x cs => onX x (fun x => R (.d x) (putBack os' cs δ2)) (fun n fs => Z (excD n fs) (putBack os' cs δ2)) .mk) .mk) Z := rfl
end DL
set_option Elab.async false
set_option linter.all false
set_option maxRecDepth 100000
set_option maxHeartbeats 4000000
namespace DL
open PySem PySem.Spec PyProof.Rows L2 NdefX
variable [Tb]
/-- the class C named n -/
structure CF (K : PySem.W.Frag) (n : Str) (C : Addr) : Prop where
  T : OexC K C
  nm : (PySem.W.clsIn K C).map (·.name) = some n
  xf : XfC K C
  ec : ExcC K C
theorem cf_mk {K : PySem.W.Frag} {n nm q : Str} {C N : Addr} {bs bm : List Value} {sn : List Str} {sub : List Value} {ab : Bool} {col : Option Bool} {dd : Option Addr} {k0 k1 k2 k3 k5 : Option Value} {cd : ClassData}
    (lc : K.lookup C = some (excClassObj nm q C N bs bm true sn sub ab col dd k0 k1 k2 k3 k5 "ValueError.__new__")) (bmv : PySem.HandSPX.refsVE bm = true) (c : PySem.W.clsIn K C = some cd) (cn : cd.name = n)
    (sa : PySem.W.findIn K (.ref C) "__setattr__" = some (some (.builtin "object.__setattr__"))) (exC : PySem.W.subIn K (.ref C) (.type "BaseException") = some true) (tyC : PySem.W.typeIn K (.ref C) = some (.type "type")) (kC : PySem.W.keepIn K (.ref C) = true)
    (ga : PySem.W.findIn K (.ref C) "__getattribute__" = some (some (.builtin "BaseException.__getattribute__"))) (gg : PySem.W.findIn K (.ref C) "__getattr__" = some none) (hd : PySem.W.hasDictIn K C = true)
    (ha : PySem.W.findIn K (.ref C) "__class__" = some (some (.builtin "object.__class__"))) (hn : PySem.W.specialIn K (.builtin "object.__class__") "__get__" = some (some (.builtin "getset_descriptor.__get__"))) (ht : PySem.W.takesIn K (.builtin "object.__class__") = some true) (hm : PySem.W.mroIn K C (.type "object") = some true) : CF K n C :=
  ⟨⟨⟨nm, q, N, bs, bm, sn, sub, ab, col, dd, k0, k1, k2, k3, k5, lc, bmv⟩, sa, exC, tyC, kC⟩, by rw [c, ← cn]; rfl, ⟨ga, gg, exC, hd⟩, ⟨ga, gg, exC, hd, ha, hn, ht, hm⟩⟩
/-- it is raised with one field -/
def XC1 (P : Program) (w : World) (K : PySem.W.Frag) (mg : Str → Option Value) (base : Heap) (TL : XNames) (n f : Str) : Prop :=
  ∃ (C fI : Addr) (fd : FuncData) (ps : List Str), (n, C) ∈ TL ∧ CF K n C ∧ PySem.W.findIn K (.ref C) "__init__" = some (some (.ref fI)) ∧ PySem.W.typeIn K (.ref fI) = some (.type "function") ∧ FnOk P w K mg base CX0 1 fI fd ps (spI1 C f) ∧ Binds K fd ps [] ∧ mg n = some (.ref C)
section
variable {X : Cx} {TL : XNames} {p pos : Pos} {e : Expr} {es : List Expr} {n f g : Str} {wa : DA}
theorem jmk1x (h : XC1 X.prog X.w X.K X.mg X.base TL n f) (hr : RoomG 2 X.A) (hg : Gl X n) (ha : JA X (e :: es) wa)
    (hdb : (n == ("__debug__" : Str)) = false := by decide) (he : starEach (e :: es) X.env = (false, eval e X.env) :: starEach es X.env := by rfl) (hpl : (backTo pos (starEach es X.env)).any (·.1) = false := by rfl) :
    JMk X TL (.Call (.Name n p) (e :: es) [] pos) (wMk1 n f wa) := by
  obtain ⟨C, fI, fd, ps, h1, h2, h3, h4, h5, h6, h7⟩ := h
  exact jmk1 h1 h2.nm h2.T h3 h4 h5 hr.rm h6 hg h7 ha hdb he hpl
end
section
variable {X : Cx} {TL : XNames}
variable {a : Addr} {oe : Obj} {cls : Value} {d : Option Addr} {pn : List (Addr × Obj)} {pos p : Pos}
end
section
open PySem.W
variable {P : Program} {w : World} {K : Frag} {mg : Str → Option Value} {base h : Heap} {TL : XNames}
theorem xc1_mk {n x qual : Str} {C fI cda cc : Addr} {file : Str} {tf : Tok} {params : Arguments} {scope : Scope} {ar : Arg} {p0 p1 p2 p3 p4 p5 q0 q1 q2 q3 : Pos} {oc ct ccl cl doc pm : Value} {an od cdd cld : Option Addr} {osl ccs csl : Array (Option Value)} {cvs : Array Value} {cdD : ClassData}
    (KX : K.In h) (G : h.Ns mainGlobals mg) (hT : (n, C) ∈ TL) (F : CF K n C) (a : nsIn K mainGlobals n = some (some (.ref C))) (c : clsIn K C = some cdD) (sub : mroIn K C (.ref C) = some true) (opq : nsIn K cStatics "thirdparty.any" = some none) (ini : ks_superIn K C C "__init__" = some (some (.builtin "ValueError.__init__"))) (ve : subIn K (.ref C) (.type "ValueError") = some true)
    (iC : findIn K (.ref C) "__init__" = some (some (.ref fI))) (tI : typeIn K (.ref fI) = some (.type "function"))
    (lk : K.lookup fI = some ⟨oc, od, .func (fnX "__init__" qual params [.Expr (.Call (.Attribute (.Call (.Name "super" p0) [] [] p1) "__init__" p2) [.Name x p3] [] p4) p5, .Assign [.Attribute (.Name "self" q0) x q1] (.Name x q2) q3] scope [("__class__", cc)] .none .none doc pm an (.ref cda) ct), osl⟩)
    (hcd : codeIn K (.ref cda) qual = true) (hcode : K.lookup cda = some ⟨ccl, cdd, .fields cvs, ccs⟩) (hvs : cvs[2]? = some (.str file tf)) (hfile : ((P.main.file : Str) == file) = true)
    (hcell : K.lookup cc = some ⟨cl, cld, .cell (some (.ref C)), csl⟩) (hsm : nsIn K mainGlobals "super" = some none)
    (S : nscB ["self", x, "__class__"] ["self", x] ["__class__"] scope = true) (hp : (params.posonlyargs ++ params.args).head? = some ar) (har : ([("self" : Str), x] : List Str).head? = some ar.arg) (hnd : ([("self" : Str), x] : List Str).Nodup)
    (hks : scope.names.lookup ("super" : Str) = some .globalImplicit) (htop : (P.main.scope.names.lookup ("super" : Str)).isSome = false)
    (hst : ∀ L, starEach [.Name x p3] (ksEnv qual scope L fI (.ref cda) cc) = (false, eval (.Name x p3) (ksEnv qual scope L fI (.ref cda) cc)) :: starEach [] (ksEnv qual scope L fI (.ref cda) cc))
    (hev : ∀ L, ∃ pl, eval (.Call (.Attribute (.Call (.Name "super" p0) [] [] p1) "__init__" p2) [.Name x p3] [] p4) (ksEnv qual scope L fI (.ref cda) cc) = (do
      let ov ← attributeBase (.Call (.Name "super" p0) [] [] p1) "__init__" (ksEnv qual scope L fI (.ref cda) cc) (eval (.Call (.Name "super" p0) [] [] p1) (ksEnv qual scope L fI (.ref cda) cc))
      standAt p2.atName
      let (f, first) ← holding [ov] (getMethod ov "__init__" pl)
      callWith p4 f first (backTo p4 (starEach [.Name x p3] (ksEnv qual scope L fI (.ref cda) cc))) []))
    (hsw : ∀ L, swapsWith (.Call (.Attribute (.Call (.Name "super" p0) [] [] p1) "__init__" p2) [.Name x p3] [] p4) none p5.line (ksEnv qual scope L fI (.ref cda) cc) = pure false)
    (hin : ∀ L, interactive (ksEnv qual scope L fI (.ref cda) cc) = false)
    (hsw2 : ∀ env : Env, swapsWith (.Name x q2) (some (.Attribute (.Name "self" q0) x q1)) q3.line env = pure false)
    (hf : findIn K (.ref C) x = some none) (hdx : (x == ("__debug__" : Str)) = false) (hdc : (x == ("__classdict__" : Str)) = false)
    (hb : ∀ us : List Value, us.length = 2 → bindArgs (fnX "__init__" qual params [.Expr (.Call (.Attribute (.Call (.Name "super" p0) [] [] p1) "__init__" p2) [.Name x p3] [] p4) p5, .Assign [.Attribute (.Name "self" q0) x q1] (.Name x q2) q3] scope [("__class__", cc)] .none .none doc pm an (.ref cda) ct) ⟨us, []⟩ = pure (([("self" : Str), x] : List Str).zip us)) :
    XC1 P w K mg base TL n x :=
  ⟨C, fI, _, ["self", x], hT, F, iC, tI, init_ok1 lk ⟨⟨F.T, ⟨_, c⟩, sub, opq, ini, ve⟩, hcd, ⟨_, _, _, _, _, _, hcode, hvs, hfile⟩, ⟨_, _, _, hcell⟩, mg_none_of KX G hsm, nscope_by S, ⟨ar, hp, har⟩, hnd, hks, htop, hst, fun L => rfl, hev, hsw, hin⟩ hf hdx hdc hsw2,
    fun s us k hl => by
      rw [List.append_nil] at hl ⊢
      exact .of_eq (hb us hl), mg_of KX G a⟩
end
section
variable {X : Cx} {TL : XNames} {x : Str} {e : Expr} {pos p : Pos}
variable {a : Addr} {oe : Obj} {cls : Value} {d : Option Addr} {pn : List (Addr × Obj)}
end
end DL
set_option Elab.async false
set_option linter.all false
set_option maxRecDepth 100000
set_option maxHeartbeats 4000000
namespace TW
open PySem PySem.Spec PyProof.Rows L2 DL
def Cu.rank (c : Cu) (z : Int) : Int := if z = 0 then 0 else c.ab + (if z = c.w then c.am else (z - c.bg) / c.st)
def sp_Cuts_rank : DSp := fun cs R => ∃ (c : Cu) (z : Int), cs = [.d c.d, .d (.int z)] ∧ (0 < c.st ∧ c.st.natAbs.log2 < 9000) ∧ R (.int (c.rank z)) cs
/-- a kind first, an axis -/
def clL (n : Nat) : List (Nat × Nat) := [0, 1].flatMap fun f => (List.range n).map fun ax => (f, ax)
def cuOf (a b bx : List Int) (l : Nat × Nat) : Cu := cuF (fst2 l.1 a b) (fst2 l.1 b a) bx l.2
def clD (a b bx : List Int) (l : Nat × Nat) : PyData := .tuple [.int (l.1 : Int), .int (l.2 : Int), (cuOf a b bx l).d]
def sp_all_cuts : DSp := fun cs R => ∃ a b bx, cs = [.d (prD a b), .d (tI bx)] ∧ PB a b bx ∧ R (.list ((clL bx.length).map (clD a b bx))) cs
def sp_count_cuts : DSp := fun cs R => ∃ a b bx, cs = [.d (prD a b), .d (tI bx)] ∧ PB a b bx ∧ R (.int ((cutsL a b bx).length : Int)) cs
/-- the cut with a number, if a value is one -/
def atF (L : List (Nat × Nat × Int)) : PyData → Option (Nat × Nat × Int)
  | .int i => if 0 ≤ i then L[i.toNat]? else none
  | _ => none
def sp_cut_at : DSp := fun cs R => ∃ a b bx v, cs = [.d (prD a b), .d (tI bx), .d v] ∧ PB a b bx ∧ R (match atF (cutsL a b bx) v with | some t => triD t | none => excD "NoNumber" [("number", v)]) cs
/-- a value's number among cuts -/
def numF (L : List (Nat × Nat × Int)) : PyData → PyData
  | .tuple [.int f, .int ax, .int z] => if 0 ≤ f ∧ 0 ≤ ax ∧ (f.toNat, ax.toNat, z) ∈ L then .int (L.idxOf (f.toNat, ax.toNat, z) : Int) else .none
  | _ => .none
def sp_cut_number : DSp := fun cs R => ∃ a b bx v, cs = [.d (prD a b), .d (tI bx), .d v] ∧ PB a b bx ∧ noO v = true ∧ R (numF (cutsL a b bx) v) cs
def w_all_cuts_1 : DTS := (wExtend 2 (wOfL (wComp (iRange1 (wCons (wFn pLen (wCons (wVar 1) wNil)) wNil)) (gN 4) tT (wTup (wCons (wVar 3) (wCons (wVar 4) (wCons (wMake "Cuts" sp_Cuts_init (wCons (wVar 0) (wCons (wVar 1) (wCons (wVar 3) (wCons (wVar 4) wNil))))) wNil)))) [4])))
def w_all_cuts_s1 : DTS := (wSeq (wFor (iSeq (wTup (wCons (wC (.int 0)) (wCons (wC (.int 1)) wNil)))) (gN 3) w_all_cuts_1) (wRet (wVar 2)))
@[simp ↓] theorem w_all_cuts_s1_ap (E : DEnds) (δ : DS) : w_all_cuts_s1 E δ = (wSeq (wFor (iSeq (wTup (wCons (wC (.int 0)) (wCons (wC (.int 1)) wNil)))) (gN 3) w_all_cuts_1) (wRet (wVar 2))) E δ := rfl
def w_all_cuts : DTS := (wSeq (wSet 2 (mL (wLst wNil))) w_all_cuts_s1)
def w_count_cuts : DTS := (wRet (wFn pSum (wCons (wOfL (wComp (iSeq (wCall [] sp_all_cuts (wCons (wVar 0) (wCons (wVar 1) wNil)))) (gT (gsCons (gN 2) (gsCons (gN 3) (gsCons (gN 4) gsNil)))) tT (wMeth "Cuts" "many" sp_Cuts_many (wVar 4) wNil) [2, 3, 4])) wNil)))
def w_cut_at_1 : DTS := (wSet 4 (mE (wTup (wCons (wVar 5) (wCons (wVar 6) (wCons (wMeth "Cuts" "spot" sp_Cuts_spot (wVar 7) (wCons (wVar 3) wNil)) wNil))))))
def w_cut_at_s1 : DTS := (wSeq (wIf (wAnd (wB (wOp pIs (wVar 4) (wC .none))) (wB (wOp pLt (wVar 3) (wVar 8)))) w_cut_at_1 wNext) (wAug 3 pISub (wVar 8)))
@[simp ↓] theorem w_cut_at_s1_ap (E : DEnds) (δ : DS) : w_cut_at_s1 E δ = (wSeq (wIf (wAnd (wB (wOp pIs (wVar 4) (wC .none))) (wB (wOp pLt (wVar 3) (wVar 8)))) w_cut_at_1 wNext) (wAug 3 pISub (wVar 8))) E δ := rfl
def w_cut_at_2 : DTS := (wSeq (wSet 8 (mE (wMeth "Cuts" "many" sp_Cuts_many (wVar 7) wNil))) w_cut_at_s1)
def w_cut_at_s2 : DTS := (wSeq (wFor (iSeq (wCall [] sp_all_cuts (wCons (wVar 0) (wCons (wVar 1) wNil)))) (gT (gsCons (gN 5) (gsCons (gN 6) (gsCons (gN 7) gsNil)))) w_cut_at_2) (wRet (wVar 4)))
@[simp ↓] theorem w_cut_at_s2_ap (E : DEnds) (δ : DS) : w_cut_at_s2 E δ = (wSeq (wFor (iSeq (wCall [] sp_all_cuts (wCons (wVar 0) (wCons (wVar 1) wNil)))) (gT (gsCons (gN 5) (gsCons (gN 6) (gsCons (gN 7) gsNil)))) w_cut_at_2) (wRet (wVar 4))) E δ := rfl
def w_cut_at_3 : DTS := (wRaise (wMk1 "NoNumber" "number" (wCons (wVar 2) wNil)))
def w_cut_at_t1 : DTS := (wSeq (wPar2 3 4 (msCons (mE (wVar 2)) (msCons (mE (wC .none)) msNil))) w_cut_at_s2)
def w_cut_at : DTS := (wSeq (wIf (wNot (wB (wCall [] sp_is_integer (wCons (wVar 2) (wCons (wC (.int 0)) (wCons (wOp pSubB (wCall [] sp_count_cuts (wCons (wVar 0) (wCons (wVar 1) wNil))) (wC (.int 1))) wNil)))))) w_cut_at_3 wNext) w_cut_at_t1)
def w_Cuts_rank_t1 : DTS := (wRet (wOp pAddB (wFld "Cuts" "at_begin" (wVar 0)) (wIfE (wB (wOp pEq (wVar 1) (wFld "Cuts" "whole" (wVar 0)))) (wFld "Cuts" "amid" (wVar 0)) (wOp pDiv (wOp pSubB (wVar 1) (wFld "Cuts" "begin" (wVar 0))) (wFld "Cuts" "step" (wVar 0))))))
def w_Cuts_rank : DTS := (wSeq (wIf (wB (wOp pEq (wVar 1) (wC (.int 0)))) (wRet (wC (.int 0))) wNext) w_Cuts_rank_t1)
def w_cut_number_1 : DTS := (wRet (wOp pAddB (wVar 3) (wMeth "Cuts" "rank" sp_Cuts_rank (wVar 6) (wCons (wOp pIx (wVar 2) (wC (.int 2))) wNil))))
def w_cut_number_t1 : DTS := (wAug 3 pIAdd (wMeth "Cuts" "many" sp_Cuts_many (wVar 6) wNil))
def w_cut_number_3 : DTS := (wSeq (wIf (wB (wOp pEq (wTup (wCons (wVar 4) (wCons (wVar 5) wNil))) (wSl pSl (wVar 2) wNoP (wPart (wC (.int 2)))))) w_cut_number_1 wNext) w_cut_number_t1)
def w_cut_number_s1 : DTS := (wSeq (wFor (iSeq (wCall [] sp_all_cuts (wCons (wVar 0) (wCons (wVar 1) wNil)))) (gT (gsCons (gN 4) (gsCons (gN 5) (gsCons (gN 6) gsNil)))) w_cut_number_3) (wRet (wC .none)))
@[simp ↓] theorem w_cut_number_s1_ap (E : DEnds) (δ : DS) : w_cut_number_s1 E δ = (wSeq (wFor (iSeq (wCall [] sp_all_cuts (wCons (wVar 0) (wCons (wVar 1) wNil)))) (gT (gsCons (gN 4) (gsCons (gN 5) (gsCons (gN 6) gsNil)))) w_cut_number_3) (wRet (wC .none))) E δ := rfl
def w_cut_number_t2 : DTS := (wSeq (wSet 3 (mE (wC (.int 0)))) w_cut_number_s1)
def w_cut_number : DTS := (wSeq (wIf (wOr (wNot (wB (wIsi "tuple" (wVar 2)))) (wOr (wB (wOp pNe (wFn pLen (wCons (wVar 2) wNil)) (wC (.int 3)))) (wNot (wB (wCall [] sp_paper_holds (wCons (wVar 0) (wCons (wVar 1) (wCons (wOp pAddB (wTup (wCons (wC (.str "cut")) wNil)) (wVar 2)) wNil)))))))) (wRet (wC .none)) wNext) w_cut_number_t2)
theorem ln_all_cuts : ∀ cs R, sp_all_cuts cs R → cs.length = 2 := by
  intro cs R h
  unfold sp_all_cuts at h
  repeat (obtain ⟨_, h⟩ := h)
  subst_vars; rfl
theorem ln_count_cuts : ∀ cs R, sp_count_cuts cs R → cs.length = 2 := by
  intro cs R h
  unfold sp_count_cuts at h
  repeat (obtain ⟨_, h⟩ := h)
  subst_vars; rfl
theorem ln_cut_at : ∀ cs R, sp_cut_at cs R → cs.length = 3 := by
  intro cs R h
  unfold sp_cut_at at h
  repeat (obtain ⟨_, h⟩ := h)
  subst_vars; rfl
theorem ln_Cuts_rank : ∀ cs R, sp_Cuts_rank cs R → cs.length = 2 := by
  intro cs R h
  unfold sp_Cuts_rank at h
  repeat (obtain ⟨_, h⟩ := h)
  subst_vars; rfl
theorem ln_cut_number : ∀ cs R, sp_cut_number cs R → cs.length = 3 := by
  intro cs R h
  unfold sp_cut_number at h
  repeat (obtain ⟨_, h⟩ := h)
  subst_vars; rfl
end TW
set_option Elab.async false
set_option linter.all false
set_option maxRecDepth 100000
set_option maxHeartbeats 4000000
namespace TW
open PySem PySem.Spec PyProof.Rows L2 DL
theorem asc_eq : ∀ {l m : List Int}, l.Pairwise (· < ·) → m.Pairwise (· < ·) → (∀ x, x ∈ l ↔ x ∈ m) → l = m
  | [], [], _, _, _ => rfl
  | [], y :: ys, _, _, h => absurd ((h y).mpr (by simp)) (by simp)
  | x :: xs, [], _, _, h => absurd ((h x).mp (by simp)) (by simp)
  | x :: xs, y :: ys, h1, h2, h => by
    obtain ⟨a1, b1⟩ := List.pairwise_cons.mp h1
    obtain ⟨a2, b2⟩ := List.pairwise_cons.mp h2
    have e : x = y := by
      rcases List.mem_cons.mp ((h x).mp (by simp)) with q | q
      · exact q
      · rcases List.mem_cons.mp ((h y).mpr (by simp)) with q' | q'
        · exact q'.symm
        · have := a1 y q'
          have := a2 x q
          omega
    subst e
    rw [asc_eq b1 b2 fun z => ?_]
    constructor
    · intro hz
      rcases List.mem_cons.mp ((h z).mp (List.mem_cons_of_mem _ hz)) with q | q
      · have := a1 z hz
        omega
      · exact q
    · intro hz
      rcases List.mem_cons.mp ((h z).mpr (List.mem_cons_of_mem _ hz)) with q | q
      · have := a2 z hz
        omega
      · exact q
/-- how many, and where they are -/
def Cu.many (c : Cu) : Int := c.ab + c.am + c.ae
structure CuOk (l h bx : List Int) (ax : Nat) (c : Cu) : Prop where
  nn : 0 ≤ c.many
  le : c.many ≤ gi bx ax + 3
  ok : ∀ n, 0 ≤ n → n < c.many → 0 ≤ c.spot n ∧ c.spot n ≤ gi bx ax ∧ cutB l h bx ax (c.spot n) = true
  rk : ∀ z, 0 ≤ z → z ≤ gi bx ax → cutB l h bx ax z = true → 0 ≤ c.rank z ∧ c.rank z < c.many ∧ c.spot (c.rank z) = z
  up : ∀ n m, 0 ≤ n → n < m → m < c.many → c.spot n < c.spot m
  st : 1 ≤ c.st
  sl : c.st ≤ gi l ax * gi h ax
  ab : 0 ≤ c.ab ∧ c.ab ≤ 1
  mu : ∀ n, 0 ≤ n → n < c.many → CMul c.st (n - c.ab) ∨ CMulW c.st (n - c.ab)
theorem cu_ok {l h bx : List Int} {ax : Nat} (hax : ax < bx.length) (hl : 1 ≤ gi l ax) (hh : 1 ≤ gi h ax) (s0 : 1 ≤ gi bx ax) (sB : gi bx ax ≤ BIG) : CuOk l h bx ax (cuF l h bx ax) := by
  have A := amid_iff (l := l) (h := h) (bx := bx) hl hh
  have An := amid_nn (l := l) (h := h) (bx := bx) hl hh
  have Al := amid_le (l := l) (h := h) (bx := bx) hl hh s0
  have jl := joint_le hl hh
  have ab := all_01 h bx
  have ae := all_01 l bx
  have cz := cut_zero (l := l) (h := h) hax s0
  have cs := cut_side (l := l) (h := h) hax s0
  have mid : ∀ z, 0 < z → z < gi bx ax → (cutB l h bx ax z = true ↔ ∃ k : Int, 0 ≤ k ∧ k < (amidF l h bx ax).2 ∧ z = (amidF l h bx ax).1 + jointF (gi l ax) (gi h ax) * k) := fun z z0 z1 => by
    rw [A, cut_amid hax z0 z1]
    exact ⟨fun q => ⟨z0, z1, q⟩, fun q => q.2.2⟩
  have ins : ∀ k : Int, 0 ≤ k → k < (amidF l h bx ax).2 → 0 < (amidF l h bx ax).1 + jointF (gi l ax) (gi h ax) * k ∧ (amidF l h bx ax).1 + jointF (gi l ax) (gi h ax) * k < gi bx ax ∧ cutB l h bx ax ((amidF l h bx ax).1 + jointF (gi l ax) (gi h ax) * k) = true := fun k k0 k1 => by
    obtain ⟨p, q, c⟩ := (A _).mp ⟨k, k0, k1, rfl⟩
    exact ⟨p, q, (cut_amid hax p q).mpr c⟩
  have mo : ∀ i j : Int, i < j → jointF (gi l ax) (gi h ax) * i < jointF (gi l ax) (gi h ax) * j := fun i j ij => by
    have := Int.mul_le_mul_of_nonneg_left (show i + 1 ≤ j by omega) (show 0 ≤ jointF (gi l ax) (gi h ax) by omega)
    rw [Int.mul_add, Int.mul_one] at this
    omega
  refine ⟨?_, ?_, ?_, ?_, ?_, ?_, ?_, ?_, ?_⟩
  all_goals unfold cuF
  all_goals simp only [Cu.many, Cu.spot, Cu.rank]
  all_goals clear A
  all_goals generalize (amidF l h bx ax).2 = am at *
  all_goals generalize (amidF l h bx ax).1 = bg at *
  all_goals generalize jointF (gi l ax) (gi h ax) = st at *
  all_goals generalize allF h bx = a0 at *
  all_goals generalize allF l bx = a1 at *
  · omega
  · omega
  · intro n n0 n1
    split
    · exact ⟨by omega, by omega, cz.mpr (by omega)⟩
    · split
      · obtain ⟨p, q, c⟩ := ins (n - a0) (by omega) (by omega)
        exact ⟨by omega, by omega, c⟩
      · exact ⟨by omega, by omega, cs.mpr (by omega)⟩
  · intro z z0 z1 c
    by_cases e0 : z = 0
    · subst e0
      have := cz.mp c
      rw [if_pos rfl]
      exact ⟨by omega, by omega, by rw [if_pos (by omega)]⟩
    · rw [if_neg e0]
      by_cases e1 : z = gi bx ax
      · subst e1
        have := cs.mp c
        rw [if_pos rfl]
        exact ⟨by omega, by omega, by rw [if_neg (by omega), if_neg (by omega)]⟩
      · rw [if_neg e1]
        obtain ⟨k, k0, k1, e⟩ := (mid z (by omega) (by omega)).mp c
        have ek : (z - bg) / st = k := by
          rw [e, show bg + st * k - bg = st * k by omega]
          exact Int.mul_ediv_cancel_left _ (by omega)
        rw [ek, if_neg (by omega), if_pos (by omega), show a0 + k - a0 = k by omega]
        exact ⟨by omega, by omega, e.symm⟩
  · intro n m n0 nm m1
    by_cases c1 : n < a0
    · rw [if_pos c1, if_neg (show ¬ m < a0 by omega)]
      split
      · exact (ins (m - a0) (by omega) (by omega)).1
      · omega
    · rw [if_neg c1, if_neg (show ¬ m < a0 by omega)]
      by_cases c2 : n - a0 < am
      · rw [if_pos c2]
        by_cases c3 : m - a0 < am
        · rw [if_pos c3]
          have := mo (n - a0) (m - a0) (by omega)
          omega
        · rw [if_neg c3]
          exact (ins (n - a0) (by omega) c2).2.1
      · omega
  · omega
  · exact jl.2
  · omega
  · intro n n0 n1
    by_cases q : -(2 ^ 64) < n - a0 ∧ n - a0 < 2 ^ 64
    · exact cm_r q
    · obtain ⟨p0, p1, _⟩ := ins 0 (by omega) (by omega)
      obtain ⟨r0, r1, _⟩ := ins (am - 1) (by omega) (by omega)
      rw [Int.mul_zero] at p0
      have u1 := Int.mul_le_mul_of_nonneg_left (show 1 ≤ am - 1 by omega) (show 0 ≤ st by omega)
      have u2 := Int.mul_le_mul_of_nonneg_right (show 1 ≤ st by omega) (show 0 ≤ am - 1 by omega)
      exact mul_big (by omega) (by omega) (by omega) (by omega)
theorem PB.cu {a b bx : List Int} {f ax : Nat} (h : PB a b bx) (hax : ax < bx.length) : CuOk (fst2 f a b) (fst2 f b a) bx ax (cuOf a b bx (f, ax)) := by
  obtain ⟨f1, f2⟩ := h.f1 (f := f)
  obtain ⟨g1, g2⟩ := h.f2 (f := f)
  exact cu_ok hax (gi_pos f1 hax f2).1 (gi_pos g1 hax g2).1 (gi_pos rfl hax h.px).1 (gi_pos rfl hax h.px).2
/-- the cuts with one kind first along an axis, by the object -/
theorem cutsA_eq {a b bx : List Int} {f ax : Nat} (h : PB a b bx) (hax : ax < bx.length) : cutsA a b bx f ax = (List.range (cuOf a b bx (f, ax)).many.toNat).map fun (i : Nat) => (f, ax, (cuOf a b bx (f, ax)).spot (i : Int)) := by
  have c := h.cu (f := f) hax
  have px := (gi_pos rfl hax h.px).1
  generalize cuOf a b bx (f, ax) = u at *
  unfold cutsA
  have e : ((List.range (gi bx ax + 1).toNat).filter fun (z : Nat) => cutB (fst2 f a b) (fst2 f b a) bx ax (z : Int)).map (fun (z : Nat) => (z : Int)) = (List.range u.many.toNat).map fun (i : Nat) => u.spot (i : Int) := by
    refine asc_eq ?_ ?_ fun z => ?_
    · rw [List.pairwise_map]
      exact (List.Pairwise.filter _ List.pairwise_lt_range).imp fun {x y} q => by omega
    · rw [List.pairwise_map]
      refine List.Pairwise.imp_of_mem (fun {x y} hx hy q => ?_) List.pairwise_lt_range
      have hy := List.mem_range.mp hy
      exact c.up x y (by omega) (by omega) (by omega)
    · simp only [List.mem_map, List.mem_filter, List.mem_range]
      constructor
      · rintro ⟨x, ⟨hx, hc⟩, rfl⟩
        obtain ⟨r0, r1, r2⟩ := c.rk x (by omega) (by omega) hc
        exact ⟨(u.rank x).toNat, by omega, by rw [show (((u.rank x).toNat : Nat) : Int) = u.rank x by omega]; exact r2⟩
      · rintro ⟨i, hi, rfl⟩
        obtain ⟨s0, s1, s2⟩ := c.ok i (by omega) (by omega)
        exact ⟨(u.spot i).toNat, ⟨by omega, by rw [show (((u.spot i).toNat : Nat) : Int) = u.spot i by omega]; exact s2⟩, by omega⟩
  have e2 := congrArg (List.map fun z : Int => (f, ax, z)) e
  rw [List.map_map, List.map_map] at e2
  exact e2
theorem cutsA_many {a b bx : List Int} {f ax : Nat} (h : PB a b bx) (hax : ax < bx.length) : ((cutsA a b bx f ax).length : Int) = (cuOf a b bx (f, ax)).many := by
  rw [cutsA_eq h hax, List.length_map, List.length_range]
  have := (h.cu (f := f) hax).nn
  omega
theorem cutsL_cl (a b bx : List Int) : cutsL a b bx = (clL bx.length).flatMap fun l => cutsA a b bx l.1 l.2 := by
  rw [cutsL_eq]
  unfold clL
  rw [List.flatMap_assoc]
  congr 1
  funext f
  rw [List.flatMap_map]
theorem mem_clL {n : Nat} {l : Nat × Nat} : l ∈ clL n ↔ l.1 ≤ 1 ∧ l.2 < n := by
  obtain ⟨f, ax⟩ := l
  unfold clL
  simp only [List.mem_flatMap, List.mem_map, List.mem_range, Prod.mk.injEq]
  constructor
  · rintro ⟨f', hf, ax', hax, rfl, rfl⟩
    exact ⟨by simp at hf; omega, hax⟩
  · rintro ⟨hf, hax⟩
    exact ⟨f, by simp; omega, ax, hax, rfl, rfl⟩
/-- ascending -/
def lt3 (t u : Nat × Nat × Int) : Prop := t.1 < u.1 ∨ (t.1 = u.1 ∧ (t.2.1 < u.2.1 ∨ (t.2.1 = u.2.1 ∧ t.2.2 < u.2.2)))
theorem cutsL_asc (a b bx : List Int) : (cutsL a b bx).Pairwise lt3 := by
  rw [cutsL_cl, List.pairwise_flatMap]
  constructor
  · intro l _
    unfold cutsA
    rw [List.pairwise_map]
    exact (List.Pairwise.filter _ List.pairwise_lt_range).imp fun {x y} q => .inr ⟨rfl, .inr ⟨rfl, by show (x : Int) < (y : Int); omega⟩⟩
  · have key : (clL bx.length).Pairwise fun l m => l.1 < m.1 ∨ (l.1 = m.1 ∧ l.2 < m.2) := by
      unfold clL
      rw [List.pairwise_flatMap]
      constructor
      · intro f _
        rw [List.pairwise_map]
        exact List.pairwise_lt_range.imp fun {x y} q => .inr ⟨rfl, q⟩
      · refine List.pairwise_cons.mpr ⟨fun f hf => ?_, by simp⟩
        simp only [List.mem_cons, List.not_mem_nil, or_false] at hf
        subst hf
        intro x hx y hy
        obtain ⟨_, _, rfl⟩ := List.mem_map.mp hx
        obtain ⟨_, _, rfl⟩ := List.mem_map.mp hy
        exact .inl (show (0 : Nat) < 1 by decide)
    refine key.imp fun {l m} q x hx y hy => ?_
    unfold cutsA at hx hy
    obtain ⟨_, _, rfl⟩ := List.mem_map.mp hx
    obtain ⟨_, _, rfl⟩ := List.mem_map.mp hy
    rcases q with q | ⟨q1, q2⟩
    · exact .inl q
    · exact .inr ⟨q1, .inl q2⟩
theorem lt3_irr {t : Nat × Nat × Int} : ¬ lt3 t t := by unfold lt3; omega
theorem cutsL_nodup (a b bx : List Int) : (cutsL a b bx).Nodup := (cutsL_asc a b bx).imp fun {t u} q e => by subst e; exact lt3_irr q
theorem many_sum {a b bx : List Int} (h : PB a b bx) : ∀ ls : List (Nat × Nat), (∀ l ∈ ls, l.2 < bx.length) → (ls.map fun l => (cuOf a b bx l).many).sum = (((ls.flatMap fun l => cutsA a b bx l.1 l.2).length : Nat) : Int)
  | [], _ => by simp
  | l :: ls, hl => by
    have := many_sum h ls fun m hm => hl m (List.mem_cons_of_mem _ hm)
    have m := cutsA_many (f := l.1) h (hl l (by simp))
    rw [List.map_cons, List.sum_cons, List.flatMap_cons, List.length_append, this]
    push_cast
    rw [m]
theorem rd_Cuts_rank : ∀ cs R, sp_Cuts_rank cs R → w_Cuts_rank (endsOf cs R) (start0 2 cs) := by
  rintro _ R ⟨c, z, rfl, p, hR⟩
  simp -implicitDefEqProofs -dsimp [w_Cuts_rank]
  unfold Cu.rank at hR
  by_cases e : z = 0
  · rw [if_pos e] at hR
    subst e
    (try simp -implicitDefEqProofs -dsimp)
    exact hR
  · rw [if_neg e] at hR
    simp -implicitDefEqProofs -dsimp [e, w_Cuts_rank_t1]
    split
    · rename_i q
      rw [if_pos q] at hR
      exact hR
    · rename_i q
      rw [if_neg q] at hR
      exact ⟨p, hR⟩
theorem fmap_some {α β : Type} (f : α → β) (l : List α) : l.filterMap (fun x => some (f x)) = l.map f := by
  induction l with
  | nil => rfl
  | cons x xs ih => simp [ih]
theorem rd_all_cuts : ∀ cs R, sp_all_cuts cs R → w_all_cuts (endsOf cs R) (start0 5 cs) := by
  rintro _ R ⟨a, b, bx, rfl, h, hR⟩
  simp -implicitDefEqProofs -dsimp [w_all_cuts]
  intro fa
  refine for_plain ([0, 1] : List Nat) (fun (f : Nat) => PyData.int (f : Int)) rfl (fun rest δ => ∃ (done : List (Nat × Nat)) (c3 c4 : Cell), δ = [.d (prD a b), .d (tI bx), .ol fa (done.map (clD a b bx)), c3, c4] ∧
    done ++ (rest.flatMap fun f => (List.range bx.length).map fun ax => (f, ax)) = clL bx.length ∧ (∀ f ∈ rest, f ≤ 1) ∧ done.length + rest.length * bx.length ≤ 2 * bx.length) ⟨[], _, _, rfl, rfl, by simp, by simp⟩ ?_ ?_
  · rintro δ ⟨done, c3, c4, rfl, e, _⟩
    rw [List.flatMap_nil, List.append_nil] at e
    subst e
    (try simp -implicitDefEqProofs -dsimp)
    exact hR
  · rintro f rest δ ⟨done, c3, c4, rfl, e, hf, le⟩ K B T hK
    have l1 := h.l1
    have f1 := hf f (by simp)
    rw [List.length_cons, Nat.succ_mul] at le
    simp -implicitDefEqProofs -dsimp [w_all_cuts_1]
    refine ⟨⟨_, _, rfl⟩, by omega, ?_⟩
    rw [nums_0]
    refine com_map (List.range bx.length) (fun (i : Nat) => .int (i : Int)) rfl (fun ax => some (clD a b bx (f, ax))) (fun ax hax acc K hK => ?_) ?_
    · have hax := List.mem_range.mp hax
      (try simp -implicitDefEqProofs -dsimp)
      intro x
      refine ask_of (sp := sp_Cuts_init) ⟨x, a, b, bx, f, ax, rfl, h, f1, hax, ?_⟩
      (try simp -implicitDefEqProofs -dsimp)
      exact hK
    · rw [fmap_some, show (fun ax => clD a b bx (f, ax)) = clD a b bx ∘ (fun ax => (f, ax)) from rfl, ← List.map_map]
      simp -implicitDefEqProofs -dsimp [-List.map_map]
      refine ⟨by omega, ?_⟩
      rw [← List.map_append]
      refine hK _ ⟨_, _, _, rfl, ?_, fun g hg => hf g (List.mem_cons_of_mem _ hg), ?_⟩
      · rw [← e, List.flatMap_cons, List.append_assoc]
      · rw [List.length_append, List.length_map, List.length_range]
        omega
theorem rd_count_cuts : ∀ cs R, sp_count_cuts cs R → w_count_cuts (endsOf cs R) (start0 5 cs) := by
  rintro _ R ⟨a, b, bx, rfl, h, hR⟩
  simp -implicitDefEqProofs -dsimp [w_count_cuts]
  refine ask_of (sp := sp_all_cuts) ⟨a, b, bx, rfl, h, ?_⟩
  (try simp -implicitDefEqProofs -dsimp)
  refine com_map (clL bx.length) (clD a b bx) rfl (fun l => some (.int (cuOf a b bx l).many)) (fun l hl acc K hK => ?_) ?_
  · unfold clD
    simp -implicitDefEqProofs -dsimp [Cu.d]
    refine ask_of (sp := sp_Cuts_many) ⟨_, rfl, ?_⟩
    (try simp -implicitDefEqProofs -dsimp)
    exact hK
  · rw [fmap_some, show (fun l => PyData.int (cuOf a b bx l).many) = PyData.int ∘ (fun l => (cuOf a b bx l).many) from rfl, ← List.map_map]
    simp -implicitDefEqProofs -dsimp [-List.map_map]
    rw [many_sum h _ fun l hl => (mem_clL.mp hl).2, ← cutsL_cl]
    exact hR
theorem at_pre {a b bx : List Int} {pre rest : List (Nat × Nat)} {l : Nat × Nat} (h : PB a b bx) (e : pre ++ l :: rest = clL bx.length) {n : Nat} (n0 : (pre.flatMap fun l => cutsA a b bx l.1 l.2).length ≤ n) (n1 : ((n - (pre.flatMap fun l => cutsA a b bx l.1 l.2).length : Nat) : Int) < (cuOf a b bx l).many) :
    (cutsL a b bx)[n]? = some (l.1, l.2, (cuOf a b bx l).spot ((n - (pre.flatMap fun l => cutsA a b bx l.1 l.2).length : Nat) : Int)) := by
  have q : l.2 < bx.length := (mem_clL.mp (by rw [← e]; simp)).2
  rw [cutsL_cl, ← e, List.flatMap_append, List.flatMap_cons, List.getElem?_append_right n0]
  have e2 := cutsA_eq (f := l.1) h q
  have m := cutsA_many (f := l.1) h q
  have nn := (h.cu (f := l.1) q).nn
  change 0 ≤ (cuOf a b bx l).many at nn
  change _ = (cuOf a b bx l).many at m
  rw [List.getElem?_append_left (by omega), e2, List.getElem?_map, List.getElem?_range (show n - (pre.flatMap fun l => cutsA a b bx l.1 l.2).length < (cuOf a b bx l).many.toNat by omega)]
  rfl
theorem PB.lg {a b bx : List Int} {f ax : Nat} (h : PB a b bx) (hax : ax < bx.length) : 0 < (cuOf a b bx (f, ax)).st ∧ (cuOf a b bx (f, ax)).st.natAbs.log2 < 9000 := by
  have c := h.cu (f := f) hax
  obtain ⟨f1, f2⟩ := h.f1 (f := f)
  obtain ⟨g1, g2⟩ := h.f2 (f := f)
  have u1 := gi_pos f1 hax f2
  have u2 := gi_pos g1 hax g2
  have m := Int.mul_le_mul u1.2 u2.2 (by omega) (by decide)
  have s1 := c.st
  have s2 := c.sl
  refine ⟨by omega, log_lt (by omega) (Int.lt_of_le_of_lt (Int.le_trans s2 m) ?_)⟩
  unfold BIG
  decide +kernel
theorem idx_of {L : List (Nat × Nat × Int)} (hn : L.Nodup) {t : Nat × Nat × Int} {n : Nat} (h : L[n]? = some t) : L.idxOf t = n := by
  obtain ⟨hl, e⟩ := List.getElem?_eq_some_iff.mp h
  rw [← e]
  exact hn.idxOf_getElem n hl
theorem rd_cut_at : ∀ cs R, sp_cut_at cs R → w_cut_at (endsOf cs R) (start0 9 cs) := by
  rintro _ R ⟨a, b, bx, v, rfl, h, hR⟩
  simp -implicitDefEqProofs -dsimp [w_cut_at]
  refine ask_of (sp := sp_count_cuts) ⟨a, b, bx, rfl, h, ?_⟩
  (try simp -implicitDefEqProofs -dsimp)
  refine ask_of (sp := sp_is_integer) ⟨v, _, _, rfl, ?_⟩
  (try simp -implicitDefEqProofs -dsimp)
  by_cases c : wholeB 0 ((cutsL a b bx).length - 1) v = true
  · obtain ⟨n, rfl, n0, n1⟩ : ∃ n : Int, v = .int n ∧ 0 ≤ n ∧ n ≤ (cutsL a b bx).length - 1 := by
      cases v <;> simp [wholeB] at c
      exact ⟨_, rfl, c⟩
    rw [c]
    simp -implicitDefEqProofs -dsimp [w_cut_at_t1]
    refine ask_of (sp := sp_all_cuts) ⟨a, b, bx, rfl, h, ?_⟩
    (try simp -implicitDefEqProofs -dsimp)
    refine for_plain (clL bx.length) (clD a b bx) rfl (fun rest δ => ∃ (pre : List (Nat × Nat)) (left : Int) (fo : PyData) (c5 c6 c7 c8 : Cell), δ = [.d (prD a b), .d (tI bx), .d (.int n), .d (.int left), .d fo, c5, c6, c7, c8] ∧ pre ++ rest = clL bx.length ∧
      left = n - ((pre.flatMap fun l => cutsA a b bx l.1 l.2).length : Nat) ∧ ((fo = .none ∧ 0 ≤ left) ∨ ∃ t, fo = triD t ∧ (cutsL a b bx)[n.toNat]? = some t)) ⟨[], n, .none, _, _, _, _, rfl, rfl, by simp, .inl ⟨rfl, n0⟩⟩ ?_ ?_
    · rintro δ ⟨pre, left, fo, c5, c6, c7, c8, rfl, e, el, ho⟩
      rw [List.append_nil] at e
      subst e
      rw [← cutsL_cl] at el
      rcases ho with ⟨_, g⟩ | ⟨t, rfl, et⟩
      · omega
      · simp only [atF, if_pos n0, et] at hR
        (try simp -implicitDefEqProofs -dsimp)
        exact hR
    · rintro l rest δ ⟨pre, left, fo, c5, c6, c7, c8, rfl, e, el, ho⟩ K B T hK
      have q : l.2 < bx.length := (mem_clL.mp (by rw [← e]; simp)).2
      have m := cutsA_many (f := l.1) h q
      have cu := h.cu (f := l.1) q
      change _ = (cuOf a b bx l).many at m
      change CuOk _ _ _ _ (cuOf a b bx l) at cu
      have next : ∀ (fo : PyData) (c5 c6 c7 c8 : Cell), ((fo = .none ∧ 0 ≤ left - (cuOf a b bx l).many) ∨ ∃ t, fo = triD t ∧ (cutsL a b bx)[n.toNat]? = some t) → K [.d (prD a b), .d (tI bx), .d (.int n), .d (.int (left - (cuOf a b bx l).many)), .d fo, c5, c6, c7, c8] := fun fo c5 c6 c7 c8 ho => hK _ ⟨pre ++ [l], _, _, _, _, _, _, rfl, by simpa using e, by
        rw [List.flatMap_append, List.length_append, List.flatMap_cons, List.flatMap_nil, List.append_nil]
        push_cast
        omega, ho⟩
      unfold clD
      simp -implicitDefEqProofs -dsimp [w_cut_at_2, Cu.d]
      refine ask_of (sp := sp_Cuts_many) ⟨_, rfl, ?_⟩
      rcases ho with ⟨rfl, g⟩ | ⟨t, rfl, et⟩
      · simp -implicitDefEqProofs -dsimp [w_cut_at_s1]
        split
        · rename_i lt
          change left < (cuOf a b bx l).many at lt
          simp -implicitDefEqProofs -dsimp [w_cut_at_1, Cu.d]
          refine ask_of (sp := sp_Cuts_spot) ⟨cuOf a b bx l, _, rfl, cu.mu _ g lt, ?_⟩
          (try simp -implicitDefEqProofs -dsimp)
          have et := at_pre h e (n := n.toNat) (by omega) (by rw [show ((n.toNat - (pre.flatMap fun l => cutsA a b bx l.1 l.2).length : Nat) : Int) = left by omega]; exact lt)
          rw [show ((n.toNat - (pre.flatMap fun l => cutsA a b bx l.1 l.2).length : Nat) : Int) = left by omega] at et
          exact next _ _ _ _ _ (.inr ⟨_, rfl, et⟩)
        · rename_i lt
          change ¬ left < (cuOf a b bx l).many at lt
          exact next _ _ _ _ _ (.inl ⟨rfl, by omega⟩)
      · unfold triD
        simp -implicitDefEqProofs -dsimp [w_cut_at_s1]
        exact next _ _ _ _ _ (.inr ⟨t, rfl, et⟩)
  · rw [show wholeB 0 ((cutsL a b bx).length - 1) v = false by simpa using c]
    have e : atF (cutsL a b bx) v = none := by
      cases v <;> try rfl
      rename_i n
      simp only [wholeB, Bool.and_eq_true, decide_eq_true_eq] at c
      simp only [atF]
      split
      · exact List.getElem?_eq_none (by omega)
      · rfl
    rw [e] at hR
    simp -implicitDefEqProofs -dsimp [w_cut_at_3]
    exact hR
theorem rd_cut_number : ∀ cs R, sp_cut_number cs R → w_cut_number (endsOf cs R) (start0 7 cs) := by
  rintro _ R ⟨a, b, bx, v, rfl, h, nv, hR⟩
  have no : (∀ f ax z, IsCut a b bx f ax z → v ≠ .tuple [.int (f : Int), .int (ax : Int), .int z]) → R .none [.d (prD a b), .d (tI bx), .d v] := by
    intro q
    have e : numF (cutsL a b bx) v = .none := by
      unfold numF
      split
      · rename_i f ax z
        rw [if_neg]
        rintro ⟨f0, a0, m⟩
        have c := (mem_cutsL h).mp m
        refine q _ _ _ c ?_
        simp only [PyData.tuple.injEq, List.cons.injEq, PyData.int.injEq, and_true]
        omega
      · rfl
    rw [e] at hR
    exact hR
  cases v with
  | tuple ds =>
    match ds, nv, hR, no with
    | [x, y, z], nv, hR, no =>
      simp -implicitDefEqProofs -dsimp [w_cut_number]
      have nv3 : noO x = true ∧ noO y = true ∧ noO z = true := by simpa [noO, noOL] using nv
      refine ask_of (sp := sp_paper_holds) ⟨a, b, bx, _, rfl, h, by simp [noO, noOL, nv3], fun c hc => ?_⟩
      (try simp -implicitDefEqProofs -dsimp)
      cases c with
      | false =>
        (try simp -implicitDefEqProofs -dsimp)
        refine no fun f ax z' c e => ?_
        simp only [PyData.tuple.injEq, List.cons.injEq, and_true] at e
        obtain ⟨rfl, rfl, rfl⟩ := e
        exact absurd (hc.mpr (.inr ⟨f, ax, z', rfl, c⟩)) (by simp)
      | true =>
        obtain ⟨f, ax, z', e, ct⟩ : ∃ (f ax : Nat) (z' : Int), [x, y, z] = [PyData.int (f : Int), .int (ax : Int), .int z'] ∧ IsCut a b bx f ax z' := by
          rcases hc.mp rfl with q | ⟨f, ax, z', e, c⟩
          · exact absurd rfl (word_cut h q)
          · refine ⟨f, ax, z', ?_, c⟩
            unfold cutD3 at e
            simpa using e
        simp only [List.cons.injEq, and_true] at e
        obtain ⟨rfl, rfl, rfl⟩ := e
        simp -implicitDefEqProofs -dsimp [w_cut_number_t2]
        refine ask_of (sp := sp_all_cuts) ⟨a, b, bx, rfl, h, ?_⟩
        (try simp -implicitDefEqProofs -dsimp)
        have hm := (mem_cutsL h (t := (f, ax, z'))).mpr ct
        have hn : numF (cutsL a b bx) (.tuple [.int (f : Int), .int (ax : Int), .int z']) = .int ((cutsL a b bx).idxOf (f, ax, z') : Int) := by
          simp only [numF, Int.toNat_natCast]
          rw [if_pos ⟨by omega, by omega, hm⟩]
        rw [hn] at hR
        obtain ⟨hf, hax, z0, z1, hc'⟩ := ct
        refine for_map (clL bx.length) (clD a b bx) rfl (fun rest δ => ∃ (pre : List (Nat × Nat)) (c4 c5 c6 : Cell), δ = [.d (prD a b), .d (tI bx), .d (.tuple [.int (f : Int), .int (ax : Int), .int z']), .d (.int ((pre.flatMap fun l => cutsA a b bx l.1 l.2).length : Nat)), c4, c5, c6] ∧ pre ++ rest = clL bx.length ∧ (f, ax) ∈ rest) (fun _ => False) (fun x δ => (endsOf [.d (prD a b), .d (tI bx), .d (.tuple [.int (f : Int), .int (ax : Int), .int z'])] R).rt x δ) ⟨[], _, _, _, rfl, rfl, mem_clL.mpr ⟨hf, hax⟩⟩ ?_ (fun _ q => q.elim) (fun _ _ q => q) ?_
        · rintro δ ⟨pre, c4, c5, c6, rfl, e, m⟩
          cases m
        · rintro l rest δ ⟨pre, c4, c5, c6, rfl, e, m⟩ K B T hK _ hT
          have q : l.2 < bx.length := (mem_clL.mp (by rw [← e]; simp)).2
          have m1 := cutsA_many (f := l.1) h q
          have cu := h.cu (f := l.1) q
          change _ = (cuOf a b bx l).many at m1
          change CuOk _ _ _ _ (cuOf a b bx l) at cu
          unfold clD
          have e2 : DL.cutD [PyData.int f, PyData.int ax, PyData.int z'] none (some 2) = [PyData.int f, PyData.int ax] := cutD_take _ 2
          have sh := fun i j : Int => shaped_tI [i, j]
          simp only [tI, List.map_cons, List.map_nil] at sh
          simp -implicitDefEqProofs -dsimp [w_cut_number_3, Cu.d, -List.length_flatMap, e2, sh]
          by_cases eq : l = (f, ax)
          · subst eq
            rw [if_pos (by simp [PyData.eqvAll, PyData.eqv])]
            simp -implicitDefEqProofs -dsimp [w_cut_number_1, -List.length_flatMap]
            refine ask_of (sp := sp_Cuts_rank) ⟨cuOf a b bx (f, ax), z', rfl, h.lg q, ?_⟩
            obtain ⟨r0, r1, r2⟩ := cu.rk z' z0 z1 hc'
            have ea := at_pre h e (n := (pre.flatMap fun l => cutsA a b bx l.1 l.2).length + ((cuOf a b bx (f, ax)).rank z').toNat) (by omega) (by rw [Nat.add_sub_cancel_left]; omega)
            rw [Nat.add_sub_cancel_left, show ((((cuOf a b bx (f, ax)).rank z').toNat : Nat) : Int) = (cuOf a b bx (f, ax)).rank z' by omega, r2] at ea
            have ei := idx_of (cutsL_nodup a b bx) ea
            simp -implicitDefEqProofs -dsimp [-List.length_flatMap]
            apply hT
            rw [ei] at hR
            push_cast at hR
            rw [show ((((cuOf a b bx (f, ax)).rank z').toNat : Nat) : Int) = (cuOf a b bx (f, ax)).rank z' by omega] at hR
            simp -implicitDefEqProofs -dsimp [-List.length_flatMap]
            exact hR
          · have ne : ¬ ((l.1 : Int) = f ∧ (l.2 : Int) = ax) := fun ⟨u, v⟩ => eq (Prod.ext (Int.ofNat.inj u) (Int.ofNat.inj v))
            rw [if_neg (by simpa [PyData.eqvAll, PyData.eqv] using ne)]
            simp -implicitDefEqProofs -dsimp [w_cut_number_t1, -List.length_flatMap, Cu.d]
            refine ask_of (sp := sp_Cuts_many) ⟨_, rfl, ?_⟩
            simp -implicitDefEqProofs -dsimp [-List.length_flatMap]
            have en : (((pre.flatMap fun l => cutsA a b bx l.1 l.2).length : Nat) : Int) + (cuOf a b bx l).many = (((pre ++ [l]).flatMap fun l => cutsA a b bx l.1 l.2).length : Nat) := by
              rw [List.flatMap_append, List.length_append, List.flatMap_cons, List.flatMap_nil, List.append_nil]
              push_cast
              rw [m1]
            unfold Cu.many at en
            rw [en]
            refine hK _ ⟨pre ++ [l], _, _, _, rfl, by simpa using e, ?_⟩
            rcases List.mem_cons.mp m with q | q
            · exact absurd q.symm eq
            · exact q
    | [], nv, hR, no =>
      simp -implicitDefEqProofs -dsimp [w_cut_number]
      exact no (by rintro _ _ _ _ ⟨⟩)
    | [x], nv, hR, no =>
      simp -implicitDefEqProofs -dsimp [w_cut_number]
      exact no (by rintro _ _ _ _ ⟨⟩)
    | [x, y], nv, hR, no =>
      simp -implicitDefEqProofs -dsimp [w_cut_number]
      exact no (by rintro _ _ _ _ ⟨⟩)
    | x :: y :: z :: w :: r, nv, hR, no =>
      have ln : ¬ ((r.length : Int) + 1 + 1 + 1 + 1 = 3) := by omega
      simp -implicitDefEqProofs -dsimp [w_cut_number, ln]
      exact no (by rintro _ _ _ _ ⟨⟩)
  | dict kvs =>
    have it := isTy_tuple_d kvs
    simp -implicitDefEqProofs -dsimp [w_cut_number, it]
    exact no (by rintro _ _ _ _ ⟨⟩)
  | none => simp -implicitDefEqProofs -dsimp [w_cut_number]; exact no (by rintro _ _ _ _ ⟨⟩)
  | bool b => simp -implicitDefEqProofs -dsimp [w_cut_number]; exact no (by rintro _ _ _ _ ⟨⟩)
  | int b => simp -implicitDefEqProofs -dsimp [w_cut_number]; exact no (by rintro _ _ _ _ ⟨⟩)
  | str b => simp -implicitDefEqProofs -dsimp [w_cut_number]; exact no (by rintro _ _ _ _ ⟨⟩)
  | list b => simp -implicitDefEqProofs -dsimp [w_cut_number]; exact no (by rintro _ _ _ _ ⟨⟩)
end TW
set_option Elab.async false
set_option linter.all false
set_option maxRecDepth 100000
set_option maxHeartbeats 4000000
namespace K17
open PySem PySem.Spec PyProof.Rows L2 DL TW
abbrev sp_law : DSp := spLaw
def timD : Option Int → PyData
  | none => .none
  | some t => .int t
def sp_Lleast : DSp := fun cs R => ∃ a b s, cs = [.d (.int a), .d (.int b), .d (.int s)] ∧ Pos a ∧ Pos b ∧ Pos s ∧ R (timD (timesF a b s)) cs
def sp_Llines : DSp := fun cs R => ∃ bx : List Int, cs = [.d (tI bx)] ∧ bx.length ≤ 1000 ∧ R (.list ((clL bx.length).map fun l => .tuple [.int (l.1 : Int), .int (l.2 : Int)])) cs
def sp_Lmany_cuts : DSp := fun cs R => ∃ (a b bx : List Int) (f ax : Nat), cs = [.d (prD a b), .d (tI bx), .d (.int (f : Int)), .d (.int (ax : Int))] ∧ PB a b bx ∧ bx.length ≤ 4 ∧ In (10 ^ 13) a ∧ In (10 ^ 13) b ∧ In (10 ^ 13) bx ∧ f ≤ 1 ∧ ax < bx.length ∧ R (.int (cuOf a b bx (f, ax)).many) cs
/-- the places of cuts amid, one kind ahead -/
def innF (a b s : Int) : List Int := ((List.range (s / a).toNat).filter fun (i : Nat) => decide (0 < s - a * ((i : Int) + 1)) && decide ((s - a * ((i : Int) + 1)) % b = 0)).map fun (i : Nat) => a * ((i : Int) + 1)
def sp_Linner : DSp := fun cs R => ∃ a b s : Int, cs = [.d (.int a), .d (.int b), .d (.int s)] ∧ 1 ≤ a ∧ a < 2 ^ 60 ∧ 1 ≤ b ∧ b < 2 ^ 60 ∧ 0 ≤ s ∧ s ≤ 10 ^ 12 ∧ s / a < 1000 ∧ R (.list ((innF a b s).map PyData.int)) cs
def w_Linner : DTS := (wRet (wOfL (wComp (iRange2 (wCons (wC (.int 1)) (wCons (wOp pAddB (wOp pDiv (wVar 2) (wVar 0)) (wC (.int 1))) wNil))) (gN 3) (wAnd (wB (wOp pGt (wOp pSubB (wVar 2) (wOp pMulT (wVar 0) (wVar 3))) (wC (.int 0)))) (wB (wOp pEq (wOp pMod (wFn pInt (wCons (wOp pSubB (wVar 2) (wOp pMulT (wVar 0) (wVar 3))) wNil)) (wVar 1)) (wC (.int 0))))) (wOp pMulT (wVar 0) (wVar 3)) [3])))
def w_Llines : DTS := (wRet (wOp pAddB (wOfL (wComp (iRange1 (wCons (wFn pLen (wCons (wVar 0) wNil)) wNil)) (gN 1) tT (wTup (wCons (wC (.int 0)) (wCons (wVar 1) wNil))) [1])) (wOfL (wComp (iRange1 (wCons (wFn pLen (wCons (wVar 0) wNil)) wNil)) (gN 1) tT (wTup (wCons (wC (.int 1)) (wCons (wVar 1) wNil))) [1]))))
def w_Lleast_s1 : DTS := (wAsgG (wTup (wCons (wOp pSubB (wVar 5) (wOp pMulT (wVar 8) (wVar 4))) (wCons (wVar 4) (wCons (wOp pSubB (wVar 7) (wOp pMulT (wVar 8) (wVar 6))) (wCons (wVar 6) wNil))))) (gT (gsCons (gN 4) (gsCons (gN 5) (gsCons (gN 6) (gsCons (gN 7) gsNil))))))
@[simp ↓] theorem w_Lleast_s1_ap (E : DEnds) (δ : DS) : w_Lleast_s1 E δ = (wAsgG (wTup (wCons (wOp pSubB (wVar 5) (wOp pMulT (wVar 8) (wVar 4))) (wCons (wVar 4) (wCons (wOp pSubB (wVar 7) (wOp pMulT (wVar 8) (wVar 6))) (wCons (wVar 6) wNil))))) (gT (gsCons (gN 4) (gsCons (gN 5) (gsCons (gN 6) (gsCons (gN 7) gsNil)))))) E δ := rfl
def w_Lleast_1 : DTS := (wSeq (wSet 8 (mE (wOp pDiv (wVar 5) (wVar 4)))) w_Lleast_s1)
def w_Lleast_t1 : DTS := (wRet (wOp pMod (wFn pInt (wCons (wOp pMulT (wVar 2) (wVar 7)) wNil)) (wVar 1)))
def w_Lleast_s2 : DTS := (wSeq (wWhile (wB (wOp pGt (wVar 4) (wC (.int 0)))) w_Lleast_1) w_Lleast_t1)
@[simp ↓] theorem w_Lleast_s2_ap (E : DEnds) (δ : DS) : w_Lleast_s2 E δ = (wSeq (wWhile (wB (wOp pGt (wVar 4) (wC (.int 0)))) w_Lleast_1) w_Lleast_t1) E δ := rfl
def w_Lleast_s3 : DTS := (wSeq (wAsgG (wTup (wCons (wOp pMod (wFn pInt (wCons (wVar 0) wNil)) (wVar 1)) (wCons (wVar 1) (wCons (wC (.int 1)) (wCons (wC (.int 0)) wNil))))) (gT (gsCons (gN 4) (gsCons (gN 5) (gsCons (gN 6) (gsCons (gN 7) gsNil)))))) w_Lleast_s2)
@[simp ↓] theorem w_Lleast_s3_ap (E : DEnds) (δ : DS) : w_Lleast_s3 E δ = (wSeq (wAsgG (wTup (wCons (wOp pMod (wFn pInt (wCons (wVar 0) wNil)) (wVar 1)) (wCons (wVar 1) (wCons (wC (.int 1)) (wCons (wC (.int 0)) wNil))))) (gT (gsCons (gN 4) (gsCons (gN 5) (gsCons (gN 6) (gsCons (gN 7) gsNil)))))) w_Lleast_s2) E δ := rfl
def w_Lleast_t2 : DTS := (wSeq (wPar3 0 1 2 (msCons (mE (wOp pDiv (wVar 0) (wVar 3))) (msCons (mE (wOp pDiv (wVar 1) (wVar 3))) (msCons (mE (wOp pDiv (wVar 2) (wVar 3))) msNil)))) w_Lleast_s3)
def w_Lleast_s4 : DTS := (wSeq (wIf (wB (wOp pNe (wOp pMod (wFn pInt (wCons (wVar 2) wNil)) (wVar 3)) (wC (.int 0)))) (wRet (wC .none)) wNext) w_Lleast_t2)
@[simp ↓] theorem w_Lleast_s4_ap (E : DEnds) (δ : DS) : w_Lleast_s4 E δ = (wSeq (wIf (wB (wOp pNe (wOp pMod (wFn pInt (wCons (wVar 2) wNil)) (wVar 3)) (wC (.int 0)))) (wRet (wC .none)) wNext) w_Lleast_t2) E δ := rfl
def w_Lleast : DTS := (wSeq (wSet 3 (mE (wCall [] sp_common (wCons (wVar 0) (wCons (wVar 1) wNil))))) w_Lleast_s4)
def w_Lmany_cuts_s1 : DTS := (wRet (wOp pAddB (wVar 7) (wFn pMax2 (wCons (wC (.int 0)) (wCons (wOp pAddB (wOp pDiv (wOp pSubB (wOp pSubB (wVar 6) (wC (.int 1))) (wVar 11)) (wVar 10)) (wC (.int 1))) wNil)))))
@[simp ↓] theorem w_Lmany_cuts_s1_ap (E : DEnds) (δ : DS) : w_Lmany_cuts_s1 E δ = (wRet (wOp pAddB (wVar 7) (wFn pMax2 (wCons (wC (.int 0)) (wCons (wOp pAddB (wOp pDiv (wOp pSubB (wOp pSubB (wVar 6) (wC (.int 1))) (wVar 11)) (wVar 10)) (wC (.int 1))) wNil))))) E δ := rfl
def w_Lmany_cuts_t1 : DTS := (wSeq (wSet 11 (mE (wIfE (wB (wOp pGt (wVar 9) (wC (.int 0)))) (wOp pMulT (wOp pIx (wVar 4) (wVar 3)) (wVar 9)) (wVar 10)))) w_Lmany_cuts_s1)
def w_Lmany_cuts_s2 : DTS := (wSeq (wIf (wB (wOp pIs (wVar 9) (wC .none))) (wRet (wVar 7)) wNext) w_Lmany_cuts_t1)
@[simp ↓] theorem w_Lmany_cuts_s2_ap (E : DEnds) (δ : DS) : w_Lmany_cuts_s2 E δ = (wSeq (wIf (wB (wOp pIs (wVar 9) (wC .none))) (wRet (wVar 7)) wNext) w_Lmany_cuts_t1) E δ := rfl
def w_Lmany_cuts_t2 : DTS := (wSeq (wPar2 9 10 (msCons (mE (wCall [] sp_Lleast (wCons (wOp pIx (wVar 4) (wVar 3)) (wCons (wOp pIx (wVar 5) (wVar 3)) (wCons (wVar 6) wNil))))) (msCons (mE (wCall [] sp_Llcm (wCons (wOp pIx (wVar 4) (wVar 3)) (wCons (wOp pIx (wVar 5) (wVar 3)) wNil)))) msNil))) w_Lmany_cuts_s2)
def w_Lmany_cuts_s3 : DTS := (wSeq (wIf (wB (wOp pNe (wOfL (wComp (iSeq (wOp pAddB (wCall [] sp_Lrests (wCons (wVar 4) (wCons (wVar 1) wNil))) (wCall [] sp_Lrests (wCons (wVar 5) (wCons (wVar 1) wNil))))) (gN 8) (wB (wOp pNe (wVar 8) (wVar 3))) (wVar 8) [8])) (wOfL (wLst wNil)))) (wRet (wVar 7)) wNext) w_Lmany_cuts_t2)
@[simp ↓] theorem w_Lmany_cuts_s3_ap (E : DEnds) (δ : DS) : w_Lmany_cuts_s3 E δ = (wSeq (wIf (wB (wOp pNe (wOfL (wComp (iSeq (wOp pAddB (wCall [] sp_Lrests (wCons (wVar 4) (wCons (wVar 1) wNil))) (wCall [] sp_Lrests (wCons (wVar 5) (wCons (wVar 1) wNil))))) (gN 8) (wB (wOp pNe (wVar 8) (wVar 3))) (wVar 8) [8])) (wOfL (wLst wNil)))) (wRet (wVar 7)) wNext) w_Lmany_cuts_t2) E δ := rfl
def w_Lmany_cuts_s4 : DTS := (wSeq (wSet 7 (mE (wOp pAddB (wFn pInt (wCons (wOp pEq (wCall [] sp_Lrests (wCons (wVar 4) (wCons (wVar 1) wNil))) (wOfL (wLst wNil))) wNil)) (wFn pInt (wCons (wOp pEq (wCall [] sp_Lrests (wCons (wVar 5) (wCons (wVar 1) wNil))) (wOfL (wLst wNil))) wNil))))) w_Lmany_cuts_s3)
@[simp ↓] theorem w_Lmany_cuts_s4_ap (E : DEnds) (δ : DS) : w_Lmany_cuts_s4 E δ = (wSeq (wSet 7 (mE (wOp pAddB (wFn pInt (wCons (wOp pEq (wCall [] sp_Lrests (wCons (wVar 4) (wCons (wVar 1) wNil))) (wOfL (wLst wNil))) wNil)) (wFn pInt (wCons (wOp pEq (wCall [] sp_Lrests (wCons (wVar 5) (wCons (wVar 1) wNil))) (wOfL (wLst wNil))) wNil))))) w_Lmany_cuts_s3) E δ := rfl
def w_Lmany_cuts : DTS := (wSeq (wPar3 4 5 6 (msCons (mE (wOp pIx (wVar 0) (wVar 2))) (msCons (mE (wOp pIx (wVar 0) (wOp pSubB (wC (.int 1)) (wVar 2)))) (msCons (mE (wOp pIx (wVar 1) (wVar 3))) msNil)))) w_Lmany_cuts_s4)
def w_law_s1 : DTS := (wRet (wAndV (wOp pEq (wFn pReprN (wCons (wVar 19) wNil)) (wFn pReprN (wCons (wOfL (wComp (iSeq (wVar 18)) (gN 21) tT (wTup (wCons (wC (.int 0)) (wCons (wC (.int 0)) (wCons (wVar 21) wNil)))) [21])) wNil))) (wOp pEq (wCall [] sp_count_cuts (wCons (wTup (wCons (wTup (wCons (wVar 14) wNil)) (wCons (wTup (wCons (wVar 15) wNil)) wNil))) (wCons (wTup (wCons (wVar 16) wNil)) wNil))) (wOp pMulT (wC (.int 2)) (wFn pLen (wCons (wVar 18) wNil))))))
@[simp ↓] theorem w_law_s1_ap (E : DEnds) (δ : DS) : w_law_s1 E δ = (wRet (wAndV (wOp pEq (wFn pReprN (wCons (wVar 19) wNil)) (wFn pReprN (wCons (wOfL (wComp (iSeq (wVar 18)) (gN 21) tT (wTup (wCons (wC (.int 0)) (wCons (wC (.int 0)) (wCons (wVar 21) wNil)))) [21])) wNil))) (wOp pEq (wCall [] sp_count_cuts (wCons (wTup (wCons (wTup (wCons (wVar 14) wNil)) (wCons (wTup (wCons (wVar 15) wNil)) wNil))) (wCons (wTup (wCons (wVar 16) wNil)) wNil))) (wOp pMulT (wC (.int 2)) (wFn pLen (wCons (wVar 18) wNil)))))) E δ := rfl
def w_law_s2 : DTS := (wSeq (wSet 19 (mE (wOfL (wComp (iRange1 (wCons (wFn pLen (wCons (wVar 18) wNil)) wNil)) (gN 20) tT (nX (wCallX [] sp_cut_at (xA (wCons (wTup (wCons (wTup (wCons (wVar 14) wNil)) (wCons (wTup (wCons (wVar 15) wNil)) wNil))) (wCons (wTup (wCons (wVar 16) wNil)) (wCons (wVar 20) wNil)))))) [20])))) w_law_s1)
@[simp ↓] theorem w_law_s2_ap (E : DEnds) (δ : DS) : w_law_s2 E δ = (wSeq (wSet 19 (mE (wOfL (wComp (iRange1 (wCons (wFn pLen (wCons (wVar 18) wNil)) wNil)) (gN 20) tT (nX (wCallX [] sp_cut_at (xA (wCons (wTup (wCons (wTup (wCons (wVar 14) wNil)) (wCons (wTup (wCons (wVar 15) wNil)) wNil))) (wCons (wTup (wCons (wVar 16) wNil)) (wCons (wVar 20) wNil)))))) [20])))) w_law_s1) E δ := rfl
def w_law_s3 : DTS := (wSeq (wSet 18 (mE (wFn pSorted (wCons (wOp pAddB (wVar 17) (wCall [] sp_Linner (wCons (wVar 14) (wCons (wVar 15) (wCons (wVar 16) wNil))))) wNil)))) w_law_s2)
@[simp ↓] theorem w_law_s3_ap (E : DEnds) (δ : DS) : w_law_s3 E δ = (wSeq (wSet 18 (mE (wFn pSorted (wCons (wOp pAddB (wVar 17) (wCall [] sp_Linner (wCons (wVar 14) (wCons (wVar 15) (wCons (wVar 16) wNil))))) wNil)))) w_law_s2) E δ := rfl
def w_law_t1 : DTS := (wSeq (wSet 17 (mE (wOp pAddB (wOp pMulT (wOfL (wLst (wCons (wC (.int 0)) wNil))) (wFn pInt (wCons (wOp pEq (wOp pMod (wFn pInt (wCons (wVar 16) wNil)) (wVar 15)) (wC (.int 0))) wNil))) (wOp pMulT (wOfL (wLst (wCons (wVar 16) wNil))) (wFn pInt (wCons (wOp pEq (wOp pMod (wFn pInt (wCons (wVar 16) wNil)) (wVar 14)) (wC (.int 0))) wNil)))))) w_law_s3)
def w_law_s4 : DTS := (wSeq (wIf (wB (wOp pGt (wVar 16) (wOp pPow (wC (.int 10)) (wC (.int 12))))) (wRet (wC (.bool true))) wNext) w_law_t1)
@[simp ↓] theorem w_law_s4_ap (E : DEnds) (δ : DS) : w_law_s4 E δ = (wSeq (wIf (wB (wOp pGt (wVar 16) (wOp pPow (wC (.int 10)) (wC (.int 12))))) (wRet (wC (.bool true))) wNext) w_law_t1) E δ := rfl
def w_law_s5 : DTS := (wSeq (wSet 16 (mE (wOp pAddB (wOp pMulT (wVar 14) (wCall [true, false] sp_Ldraw (wCons (wVar 1) (wCons (wC (.int 4)) wNil)))) (wOp pMulT (wVar 15) (wOp pAddB (wC (.int 1)) (wCall [true, false] sp_Ldraw (wCons (wVar 1) (wCons (wC (.int 3)) wNil)))))))) w_law_s4)
@[simp ↓] theorem w_law_s5_ap (E : DEnds) (δ : DS) : w_law_s5 E δ = (wSeq (wSet 16 (mE (wOp pAddB (wOp pMulT (wVar 14) (wCall [true, false] sp_Ldraw (wCons (wVar 1) (wCons (wC (.int 4)) wNil)))) (wOp pMulT (wVar 15) (wOp pAddB (wC (.int 1)) (wCall [true, false] sp_Ldraw (wCons (wVar 1) (wCons (wC (.int 3)) wNil)))))))) w_law_s4) E δ := rfl
def w_law_2 : DTS := (wIf (wB (wOp pNe (wOp pSubB (wOp pIx (wVar 12) (wC (.int 2))) (wOp pIx (wVar 9) (wC (.int 2)))) (wVar 13))) (wRet (wC (.bool false))) wNext)
def w_law_s6 : DTS := (wIf (wAnd (wB (wOp pIsNot (wVar 12) (wC .none))) (wAnd (wB (wOp pEq (wSl pSl (wVar 12) wNoP (wPart (wC (.int 2)))) (wSl pSl (wVar 9) wNoP (wPart (wC (.int 2)))))) (wAnd (wB (wOp pLtT (wC (.int 0)) (wOp pIx (wVar 9) (wC (.int 2))))) (wB (wOp pLtT (wOp pIx (wVar 12) (wC (.int 2))) (wOp pIx (wVar 4) (wOp pIx (wVar 9) (wC (.int 1))))))))) w_law_2 wNext)
@[simp ↓] theorem w_law_s6_ap (E : DEnds) (δ : DS) : w_law_s6 E δ = (wIf (wAnd (wB (wOp pIsNot (wVar 12) (wC .none))) (wAnd (wB (wOp pEq (wSl pSl (wVar 12) wNoP (wPart (wC (.int 2)))) (wSl pSl (wVar 9) wNoP (wPart (wC (.int 2)))))) (wAnd (wB (wOp pLtT (wC (.int 0)) (wOp pIx (wVar 9) (wC (.int 2))))) (wB (wOp pLtT (wOp pIx (wVar 12) (wC (.int 2))) (wOp pIx (wVar 4) (wOp pIx (wVar 9) (wC (.int 1))))))))) w_law_2 wNext) E δ := rfl
def w_law_t2 : DTS := (wSeq (wSet 13 (mE (wCall [] sp_Llcm (wCons (wOp pIx (wOp pIx (wVar 3) (wC (.int 0))) (wOp pIx (wVar 9) (wC (.int 1)))) (wCons (wOp pIx (wOp pIx (wVar 3) (wC (.int 1))) (wOp pIx (wVar 9) (wC (.int 1)))) wNil))))) w_law_s6)
def w_law_s7 : DTS := (wSeq (wIf (wAnd (wB (wOp pIsNot (wVar 12) (wC .none))) (wNot (wB (wOp pLtT (wVar 9) (wVar 12))))) (wRet (wC (.bool false))) wNext) w_law_t2)
@[simp ↓] theorem w_law_s7_ap (E : DEnds) (δ : DS) : w_law_s7 E δ = (wSeq (wIf (wAnd (wB (wOp pIsNot (wVar 12) (wC .none))) (wNot (wB (wOp pLtT (wVar 9) (wVar 12))))) (wRet (wC (.bool false))) wNext) w_law_t2) E δ := rfl
def w_law_s8 : DTS := (wIf (wB (wOp pNe (wOp pIsNot (wCall [] sp_cut_number (wCons (wVar 3) (wCons (wVar 4) (wCons (wVar 10) wNil)))) (wC .none)) (wVar 11))) (wRet (wC (.bool false))) wNext)
@[simp ↓] theorem w_law_s8_ap (E : DEnds) (δ : DS) : w_law_s8 E δ = (wIf (wB (wOp pNe (wOp pIsNot (wCall [] sp_cut_number (wCons (wVar 3) (wCons (wVar 4) (wCons (wVar 10) wNil)))) (wC .none)) (wVar 11))) (wRet (wC (.bool false))) wNext) E δ := rfl
def w_law_4 : DTS := (wSeq (wSet 11 (mE (wAndV (wChain pLe pLe (wC (.int 0)) (wOp pIx (wVar 10) (wC (.int 2))) (wOp pIx (wVar 4) (wOp pIx (wVar 9) (wC (.int 1))))) (wCall [] sp_Lis_cut (wCons (wVar 3) (wCons (wVar 4) (wCons (wVar 10) wNil))))))) w_law_s8)
def w_law_t3 : DTS := (wSeq (wSet 12 (mE (wIfE (wB (wOp pLtT (wOp pAddB (wVar 8) (wC (.int 1))) (wVar 5))) (nX (wCallX [] sp_cut_at (xA (wCons (wVar 3) (wCons (wVar 4) (wCons (wOp pAddB (wVar 8) (wC (.int 1))) wNil)))))) (wC .none)))) w_law_s7)
def w_law_t4 : DTS := (wSeq (wFor (iSeq (wOfL (wLst (wCons (wTup (wCons (wOp pIx (wVar 9) (wC (.int 0))) (wCons (wOp pIx (wVar 9) (wC (.int 1))) (wCons (wOp pAddB (wOp pIx (wVar 9) (wC (.int 2))) (wC (.int 1))) wNil)))) (wCons (wTup (wCons (wOp pIx (wVar 9) (wC (.int 0))) (wCons (wOp pIx (wVar 9) (wC (.int 1))) (wCons (wOp pSubB (wOp pIx (wVar 9) (wC (.int 2))) (wC (.int 1))) wNil)))) (wCons (wTup (wCons (wOp pSubB (wC (.int 1)) (wOp pIx (wVar 9) (wC (.int 0)))) (wCons (wOp pIx (wVar 9) (wC (.int 1))) (wCons (wOp pIx (wVar 9) (wC (.int 2))) wNil)))) wNil)))))) (gN 10) w_law_4) w_law_t3)
def w_law_t5 : DTS := (wSeq (wIf (wB (wOp pNe (wFn pReprN (wCons (wCall [] sp_cut_number (wCons (wVar 3) (wCons (wVar 4) (wCons (wVar 9) wNil)))) wNil)) (wFn pReprN (wCons (wVar 8) wNil)))) (wRet (wC (.bool false))) wNext) w_law_t4)
def w_law_s9 : DTS := (wSeq (wIf (wOr (wNot (wB (wCall [] sp_is_integer (wCons (wOp pIx (wVar 9) (wC (.int 2))) (wCons (wC (.int 0)) (wCons (wOp pIx (wVar 4) (wOp pIx (wVar 9) (wC (.int 1)))) wNil)))))) (wNot (wB (wCall [] sp_Lis_cut (wCons (wVar 3) (wCons (wVar 4) (wCons (wVar 9) wNil))))))) (wRet (wC (.bool false))) wNext) w_law_t5)
@[simp ↓] theorem w_law_s9_ap (E : DEnds) (δ : DS) : w_law_s9 E δ = (wSeq (wIf (wOr (wNot (wB (wCall [] sp_is_integer (wCons (wOp pIx (wVar 9) (wC (.int 2))) (wCons (wC (.int 0)) (wCons (wOp pIx (wVar 4) (wOp pIx (wVar 9) (wC (.int 1)))) wNil)))))) (wNot (wB (wCall [] sp_Lis_cut (wCons (wVar 3) (wCons (wVar 4) (wCons (wVar 9) wNil))))))) (wRet (wC (.bool false))) wNext) w_law_t5) E δ := rfl
def w_law_8 : DTS := (wSeq (wSet 9 (mE (nX (wCallX [] sp_cut_at (xA (wCons (wVar 3) (wCons (wVar 4) (wCons (wVar 8) wNil)))))))) w_law_s9)
def w_law_t6 : DTS := (wFor (iSeq (wOfL (wLst (wCons (wC (.int 0)) (wCons (wOp pSubB (wVar 5) (wC (.int 1))) (wCons (wCall [true, false] sp_Ldraw (wCons (wVar 1) (wCons (wVar 5) wNil))) (wCons (wCall [true, false] sp_Ldraw (wCons (wVar 1) (wCons (wVar 5) wNil))) wNil))))))) (gN 8) w_law_8)
def w_law_t7 : DTS := (wSeq (wIf (wOr (wB (wOp pNe (wVar 5) (wCall [] sp_count_cuts (wCons (wRevA (wVar 3)) (wCons (wVar 4) wNil))))) (wOr (wB (wOp pLtT (wVar 5) (wC (.int 1)))) (wB (wOp pNe (wOp pMod (wFn pInt (wCons (wVar 5) wNil)) (wC (.int 2))) (wC (.int 0)))))) (wRet (wC (.bool false))) wNext) w_law_t6)
def w_law_s10 : DTS := (wSeq (wIf (wB (wOp pNe (wVar 5) (wFn pSum (wCons (wOfL (wComp (iSeq (wCall [] sp_Llines (wCons (wVar 4) wNil))) (gT (gsCons (gN 6) (gsCons (gN 7) gsNil))) tT (wCall [] sp_Lmany_cuts (wCons (wVar 3) (wCons (wVar 4) (wCons (wVar 6) (wCons (wVar 7) wNil))))) [6, 7])) wNil)))) (wRet (wC (.bool false))) wNext) w_law_t7)
@[simp ↓] theorem w_law_s10_ap (E : DEnds) (δ : DS) : w_law_s10 E δ = (wSeq (wIf (wB (wOp pNe (wVar 5) (wFn pSum (wCons (wOfL (wComp (iSeq (wCall [] sp_Llines (wCons (wVar 4) wNil))) (gT (gsCons (gN 6) (gsCons (gN 7) gsNil))) tT (wCall [] sp_Lmany_cuts (wCons (wVar 3) (wCons (wVar 4) (wCons (wVar 6) (wCons (wVar 7) wNil))))) [6, 7])) wNil)))) (wRet (wC (.bool false))) wNext) w_law_t7) E δ := rfl
def w_law_s11 : DTS := (wSeq (wSet 5 (mE (wCall [] sp_count_cuts (wCons (wVar 3) (wCons (wVar 4) wNil))))) w_law_s10)
@[simp ↓] theorem w_law_s11_ap (E : DEnds) (δ : DS) : w_law_s11 E δ = (wSeq (wSet 5 (mE (wCall [] sp_count_cuts (wCons (wVar 3) (wCons (wVar 4) wNil))))) w_law_s10) E δ := rfl
def w_law_s12 : DTS := (wSeq (wSet 4 (mE (wCall [true, false] sp_Lgreat_filled (wCons (wVar 1) (wCons (wVar 3) wNil))))) w_law_s11)
@[simp ↓] theorem w_law_s12_ap (E : DEnds) (δ : DS) : w_law_s12 E δ = (wSeq (wSet 4 (mE (wCall [true, false] sp_Lgreat_filled (wCons (wVar 1) (wCons (wVar 3) wNil))))) w_law_s11) E δ := rfl
def w_law_11 : DTS := (wSeq (wSet 3 (mE (wCall [true, false] sp_Lscaled (wCons (wVar 1) (wCons (wOp pAddB (wC (.int 1)) (wCall [true, false] sp_Ldraw (wCons (wVar 1) (wCons (wC (.int 3)) wNil)))) wNil))))) w_law_s12)
def w_law_t8 : DTS := (wSeq (wAsgG (wTup (wCons (wOp pAddB (wOp pPow (wC (.int 10)) (wC (.int 11))) (wCall [true, false] sp_Ldraw (wCons (wVar 1) (wCons (wOp pPow (wC (.int 10)) (wC (.int 11))) wNil)))) (wCons (wOp pAddB (wOp pPow (wC (.int 10)) (wC (.int 11))) (wCall [true, false] sp_Ldraw (wCons (wVar 1) (wCons (wOp pPow (wC (.int 10)) (wC (.int 11))) wNil)))) wNil))) (gT (gsCons (gN 14) (gsCons (gN 15) gsNil)))) w_law_s5)
def w_law_s13 : DTS := (wSeq (wFor (iRange1 (wCons (wC (.int 8)) wNil)) (gN 2) w_law_11) w_law_t8)
@[simp ↓] theorem w_law_s13_ap (E : DEnds) (δ : DS) : w_law_s13 E δ = (wSeq (wFor (iRange1 (wCons (wC (.int 8)) wNil)) (gN 2) w_law_11) w_law_t8) E δ := rfl
def w_law : DTS := (wSeq (wSet 1 (wCallM [true] sp_Ldeck (wCons (wVar 0) wNil))) w_law_s13)
theorem ln_Linner : ∀ cs R, sp_Linner cs R → cs.length = 3 := by
  intro cs R h
  unfold sp_Linner at h
  repeat (obtain ⟨_, h⟩ := h)
  subst_vars; rfl
theorem ln_Llines : ∀ cs R, sp_Llines cs R → cs.length = 1 := by
  intro cs R h
  unfold sp_Llines at h
  repeat (obtain ⟨_, h⟩ := h)
  subst_vars; rfl
theorem ln_Lleast : ∀ cs R, sp_Lleast cs R → cs.length = 3 := by
  intro cs R h
  unfold sp_Lleast at h
  repeat (obtain ⟨_, h⟩ := h)
  subst_vars; rfl
theorem ln_Lmany_cuts : ∀ cs R, sp_Lmany_cuts cs R → cs.length = 4 := by
  intro cs R h
  unfold sp_Lmany_cuts at h
  repeat (obtain ⟨_, h⟩ := h)
  subst_vars; rfl
theorem ln_law : ∀ cs R, sp_law cs R → cs.length = 1 := by
  intro cs R h
  unfold sp_law at h
  repeat (obtain ⟨_, h⟩ := h)
  subst_vars; rfl
end K17
set_option Elab.async false
set_option linter.all false
set_option maxRecDepth 100000
set_option maxHeartbeats 4000000
namespace K17
open PySem PySem.Spec PyProof.Rows L2 DL TW
theorem rd_Lleast : ∀ cs R, sp_Lleast cs R → w_Lleast (endsOf cs R) (start0 9 cs) := by
  rintro _ R ⟨a, b, s, rfl, ha, hb, hs, hR⟩
  have a0 := ha.1
  have a1 := ha.2
  have b0 := hb.1
  have b1 := hb.2
  have s0 := hs.1
  have s1 := hs.2
  have B := BIG_ge
  obtain ⟨g0, g1⟩ := gcd_le (b := b) a0
  simp -implicitDefEqProofs -dsimp [w_Lleast]
  refine ask_of (sp := sp_common) ⟨_, _, rfl, by omega, by omega, ?_⟩
  unfold timesF at hR
  (try simp -implicitDefEqProofs -dsimp)
  refine ⟨by omega, ?_⟩
  by_cases z : s % gcdI a b = 0
  · rw [if_pos z]
    rw [if_neg (by simpa using z)] at hR
    obtain ⟨d1, d2⟩ := div_big (j := gcdI a b) (by omega) (by omega)
    have al := Int.ediv_le_self (gcdI a b) (show 0 ≤ a by omega)
    have bl := Int.ediv_le_self (gcdI a b) (show 0 ≤ b by omega)
    have sl := Int.ediv_le_self (gcdI a b) (show 0 ≤ s by omega)
    have sn := Int.ediv_nonneg (show 0 ≤ s by omega) (show 0 ≤ gcdI a b by omega)
    have bp : 1 ≤ b / gcdI a b := by
      have h := Int.ediv_mul_cancel (gcd_dvd_r a b)
      by_cases q : 1 ≤ b / gcdI a b
      · exact q
      · have := Int.mul_le_mul_of_nonneg_right (show b / gcdI a b ≤ 0 by omega) (show 0 ≤ gcdI a b by omega)
        omega
    simp -implicitDefEqProofs -dsimp [w_Lleast_t2]
    unfold invF at hR
    obtain ⟨x, hx⟩ : ∃ x, a / gcdI a b = x := ⟨_, rfl⟩
    obtain ⟨y, hy⟩ : ∃ y, b / gcdI a b = y := ⟨_, rfl⟩
    obtain ⟨u, hu⟩ : ∃ u, s / gcdI a b = u := ⟨_, rfl⟩
    rw [hx, hy, hu] at hR
    rw [hy] at bl bp
    rw [hu] at sl sn
    rw [hx, hy, hu]
    have l0 : 0 ≤ x % y := Int.emod_nonneg _ (by omega)
    have l1 : x % y < y := Int.emod_lt_of_pos _ (by omega)
    have er : ∀ t : Int, u * (t % y) % y = u * t % y := fun t => by rw [Int.mul_emod, Int.emod_emod_of_dvd _ (Int.dvd_refl y), ← Int.mul_emod]
    rw [er] at hR
    clear hx hy hu
    refine ⟨⟨d1, d2⟩, by omega, ?_⟩
    refine while_plain (fun m δ => ∃ (l r n t : Int) (c8 : Cell) (f : Nat), δ = [.d (.int x), .d (.int y), .d (.int u), .d (.int (gcdI a b)), .d (.int l), .d (.int r), .d (.int n), .d (.int t), c8] ∧ 0 ≤ l ∧ 0 < r ∧ l < r ∧ r ≤ y ∧ n.natAbs * r.toNat + t.natAbs * l.toNat ≤ y.toNat ∧ l.toNat = m ∧ m < f ∧ invGo f l r n t = invGo (x % y).toNat.succ (x % y) y 1 0 ∧ t.natAbs ≤ y.toNat) (fun δ => ∃ c4 c5 c6 c8, (invGo (x % y).toNat.succ (x % y) y 1 0).natAbs ≤ y.toNat ∧ δ = [.d (.int x), .d (.int y), .d (.int u), .d (.int (gcdI a b)), c4, c5, c6, .d (.int (invGo (x % y).toNat.succ (x % y) y 1 0)), c8]) (x % y).toNat ⟨_, _, _, _, _, _, rfl, l0, by omega, by omega, by omega, by simp, rfl, by omega, rfl, by simp⟩ ?_ ?_
    · rintro δ ⟨c4, c5, c6, c8, tb, rfl⟩
      revert hR tb
      generalize invGo (x % y).toNat.succ (x % y) y 1 0 = t
      intro hR tb
      simp -implicitDefEqProofs -dsimp [w_Lleast_t1]
      exact ⟨mul_big (by omega) (by omega) (by omega) (by omega), by omega, hR⟩
    · rintro m δ ⟨l, r, n, t, c8, f, rfl, h0, h1, h2, h3, h4, rfl, hf, hg, tb⟩ K N T hK hN
      obtain ⟨f, rfl⟩ : ∃ f', f = f' + 1 := ⟨f - 1, by omega⟩
      (try simp -implicitDefEqProofs -dsimp)
      split
      · rename_i hl
        have q0 : 0 ≤ r / l := Int.ediv_nonneg (by omega) h0
        have q1 : r / l ≤ r := Int.ediv_le_self _ (by omega)
        have m0 := Int.emod_nonneg r (show l ≠ 0 by omega)
        have m1 := Int.emod_lt_of_pos r hl
        have e := sub_div r l
        have nb : n.natAbs ≤ y.toNat := by
          have : n.natAbs * 1 ≤ n.natAbs * r.toNat := Nat.mul_le_mul_left _ (by omega)
          omega
        simp -implicitDefEqProofs -dsimp [w_Lleast_1]
        refine ⟨div_big hl (by omega), mul_big (by omega) (by omega) (by omega) (by omega), mul_big (by omega) (by omega) (by omega) (by omega), hK (r % l).toNat _ (by omega) ⟨r - r / l * l, l, t - r / l * n, n, _, f, rfl, by omega, by omega, by omega, by omega, ?_, by rw [e], by omega, ?_, nb⟩⟩
        · rw [e]
          have d1 : (t - r / l * n).natAbs ≤ t.natAbs + (r / l).toNat * n.natAbs := by
            have := abs_mul_le (n := n) q0
            omega
          have d2 := Nat.mul_le_mul_right l.toNat d1
          have d3 : r.toNat = l.toNat * (r / l).toNat + (r % l).toNat := by
            have := Int.mul_ediv_add_emod r l
            have h5 : ((l.toNat * (r / l).toNat : Nat) : Int) = l * (r / l) := by
              rw [Int.natCast_mul, Int.toNat_of_nonneg h0, Int.toNat_of_nonneg q0]
            omega
          have d4 : (t.natAbs + (r / l).toNat * n.natAbs) * l.toNat = t.natAbs * l.toNat + n.natAbs * (l.toNat * (r / l).toNat) := by
            rw [Nat.add_mul]
            congr 1
            rw [Nat.mul_comm (r / l).toNat, Nat.mul_assoc, Nat.mul_comm (r / l).toNat]
          have d5 : n.natAbs * r.toNat = n.natAbs * (l.toNat * (r / l).toNat) + n.natAbs * (r % l).toNat := by
            rw [d3, Nat.mul_add]
          omega
        · rw [← hg]
          show _ = if l > 0 then _ else _
          rw [if_pos hl]
      · rename_i hl
        have e : invGo (f + 1) l r n t = t := by
          show (if l > 0 then _ else _) = _
          rw [if_neg hl]
        rw [e] at hg
        rw [hg] at tb ⊢
        exact hN _ ⟨_, _, _, _, tb, rfl⟩
  · rw [if_neg z]
    rw [if_pos z] at hR
    exact hR
theorem fill_cut {a b bx : List Int} (h : PB a b bx) : fillB a b bx = true ↔ ∃ f ax z, IsCut a b bx f ax z := by
  rw [fillB_iff]
  have px := fun i (hi : i < bx.length) => (gi_pos rfl hi h.px).1
  have pa := fun i (hi : i < bx.length) => (gi_pos h.la hi h.pa).1
  have pb := fun i (hi : i < bx.length) => (gi_pos h.lb hi h.pb).1
  constructor
  · rintro (q | q | ⟨ax, hax, q, s⟩)
    · exact ⟨0, 0, gi bx 0, by omega, h.l0, by have := px 0 h.l0; omega, Int.le_refl _, (cut_side h.l0 (px 0 h.l0)).mpr ((all_iff _ _).mpr (rests_nil.mpr q))⟩
    · exact ⟨1, 0, gi bx 0, by omega, h.l0, by have := px 0 h.l0; omega, Int.le_refl _, (cut_side h.l0 (px 0 h.l0)).mpr ((all_iff _ _).mpr (rests_nil.mpr q))⟩
    · obtain ⟨x, y, x0, y0, e⟩ := (isSum_iff (pa ax hax) (pb ax hax)).mp s
      have u1 := Int.mul_nonneg (show 0 ≤ gi a ax by have := pa ax hax; omega) x0
      have u2 := Int.mul_nonneg (show 0 ≤ gi b ax by have := pb ax hax; omega) y0
      refine ⟨0, ax, gi a ax * x, by omega, hax, u1, by omega, ?_⟩
      unfold cutB
      rw [Bool.and_eq_true, cpart_iff hax, cpart_iff hax]
      exact ⟨.inr ⟨fun i hi ne => (q i hi ne).1, Int.dvd_mul_right ..⟩, .inr ⟨fun i hi ne => (q i hi ne).2, ⟨y, show gi bx ax - gi a ax * x = gi b ax * y by omega⟩⟩⟩
  · rintro ⟨f, ax, z, hf, hax, z0, z1, c⟩
    have sym : ∀ {l g : List Int}, (1 ≤ gi l ax) → (1 ≤ gi g ax) → cutB l g bx ax z = true → (∀ i, i < bx.length → gi l i ∣ gi bx i) ∨ (∀ i, i < bx.length → gi g i ∣ gi bx i) ∨ ((∀ i, i < bx.length → i ≠ ax → gi l i ∣ gi bx i ∧ gi g i ∣ gi bx i) ∧ isSum (gi l ax) (gi g ax) (gi bx ax) = true ∧ isSum (gi g ax) (gi l ax) (gi bx ax) = true) := fun {l g} pl pg c => by
      rcases Int.lt_or_eq_of_le z0 with p | rfl
      · rcases Int.lt_or_eq_of_le z1 with q | rfl
        · obtain ⟨od, ⟨x, ex⟩, ⟨y, ey⟩⟩ := (cut_amid hax p q).mp c
          have x0 : 0 ≤ x := by
            apply Classical.byContradiction
            intro w
            have : gi l ax * x ≤ gi l ax * 0 := Int.mul_le_mul_of_nonneg_left (by omega) (by omega)
            omega
          have y0 : 0 ≤ y := by
            apply Classical.byContradiction
            intro w
            have : gi g ax * y ≤ gi g ax * 0 := Int.mul_le_mul_of_nonneg_left (by omega) (by omega)
            omega
          exact .inr (.inr ⟨odd_iff.mp od, (isSum_iff pl pg).mpr ⟨x, y, x0, y0, by omega⟩, (isSum_iff pg pl).mpr ⟨y, x, y0, x0, by omega⟩⟩)
        · exact .inl (rests_nil.mp ((all_iff _ _).mp ((cut_side hax (px ax hax)).mp c)))
      · exact .inr (.inl (rests_nil.mp ((all_iff _ _).mp ((cut_zero hax (px ax hax)).mp c))))
    obtain rfl | rfl : f = 0 ∨ f = 1 := by omega
    · rcases sym (pa ax hax) (pb ax hax) c with q | q | ⟨q, s, _⟩
      · exact .inl q
      · exact .inr (.inl q)
      · exact .inr (.inr ⟨ax, hax, q, s⟩)
    · rcases sym (pb ax hax) (pa ax hax) c with q | q | ⟨q, _, s⟩
      · exact .inr (.inl q)
      · exact .inl q
      · exact .inr (.inr ⟨ax, hax, fun i hi ne => (q i hi ne).symm, s⟩)
theorem cutsL_lenM {a b bx : List Int} {M : Int} (h : PB a b bx) (hM : ∀ x ∈ bx, x ≤ M) : ∀ ls : List (Nat × Nat), (∀ l ∈ ls, l.2 < bx.length) → (((ls.flatMap fun l => cutsA a b bx l.1 l.2).length : Nat) : Int) ≤ ls.length * (M + 3)
  | [], _ => by simp
  | l :: ls, hl => by
    have := cutsL_lenM h hM ls fun m hm => hl m (List.mem_cons_of_mem _ hm)
    have q := hl l (by simp)
    have c := (h.cu (f := l.1) q).le
    have m := cutsA_many (f := l.1) h q
    have px := hM _ (gi_mem q)
    rw [List.flatMap_cons, List.length_append, List.length_cons]
    push_cast
    rw [Int.add_mul, Int.one_mul]
    omega
theorem clL_len (n : Nat) : (clL n).length = 2 * n := by
  unfold clL
  simp
  omega
theorem rd_Llines : ∀ cs R, sp_Llines cs R → w_Llines (endsOf cs R) (start0 2 cs) := by
  rintro _ R ⟨bx, rfl, l, hR⟩
  simp -implicitDefEqProofs -dsimp [w_Llines]
  refine ⟨by omega, com_map (List.range bx.length) (fun (i : Nat) => .int (i : Int)) (nums_0 _) (fun i => some (.tuple [.int 0, .int (i : Int)])) (fun i hi acc K hK => ?_) ?_⟩
  · (try simp -implicitDefEqProofs -dsimp)
    exact hK
  · rw [fmap_some]
    (try simp -implicitDefEqProofs -dsimp)
    refine ⟨by omega, com_map (List.range bx.length) (fun (i : Nat) => .int (i : Int)) (nums_0 _) (fun i => some (.tuple [.int 1, .int (i : Int)])) (fun i hi acc K hK => ?_) ?_⟩
    · (try simp -implicitDefEqProofs -dsimp)
      exact hK
    · rw [fmap_some]
      (try simp -implicitDefEqProofs -dsimp)
      refine ⟨by omega, ?_⟩
      have e : (clL bx.length).map (fun l => PyData.tuple [.int (l.1 : Int), .int (l.2 : Int)]) = (List.range bx.length).map (fun (i : Nat) => PyData.tuple [.int 0, .int (i : Int)]) ++ (List.range bx.length).map (fun (i : Nat) => PyData.tuple [.int 1, .int (i : Int)]) := by
        unfold clL
        simp [List.map_flatMap, Function.comp_def]
      rw [e] at hR
      exact hR
theorem rd_Linner : ∀ cs R, sp_Linner cs R → w_Linner (endsOf cs R) (start0 4 cs) := by
  rintro _ R ⟨a, b, s, rfl, a0, a1, b0, b1, s0, s1, sa, hR⟩
  simp -implicitDefEqProofs -dsimp [w_Linner]
  have q0 : 0 ≤ s / a := Int.ediv_nonneg (by omega) (by omega)
  refine ⟨div_big (by omega) (by unfold BIG; omega), ⟨by omega, by omega⟩, ?_⟩
  rw [nums_map]
  refine com_map (List.range (s / a).toNat) (fun (i : Nat) => .int (1 + (i : Int))) rfl (fun i => if (decide (0 < s - a * ((i : Int) + 1)) && decide ((s - a * ((i : Int) + 1)) % b = 0)) = true then some (.int (a * ((i : Int) + 1))) else none) (fun i hi acc K hK => ?_) ?_
  · have hi := List.mem_range.mp hi
    have cm : CMul a (1 + (i : Int)) ∨ CMulW a (1 + (i : Int)) := cm_l (by omega)
    rw [show ((i : Int) + 1) = 1 + (i : Int) by omega] at hK
    (try simp -implicitDefEqProofs -dsimp)
    refine ⟨cm, ?_⟩
    by_cases c1 : a * (1 + (i : Int)) < s
    · rw [if_pos c1]
      refine ⟨cm, by omega, ?_⟩
      by_cases c2 : (s - a * (1 + (i : Int))) % b = 0
      · rw [if_pos c2]
        rw [if_pos (by simp [c2]; omega)] at hK
        exact ⟨cm, hK⟩
      · rw [if_neg c2]
        rw [if_neg (by simp [c2])] at hK
        simpa using hK
    · rw [if_neg c1]
      rw [if_neg (by simp; omega)] at hK
      simpa using hK
  · have e : (List.range (s / a).toNat).filterMap (fun (i : Nat) => if (decide (0 < s - a * ((i : Int) + 1)) && decide ((s - a * ((i : Int) + 1)) % b = 0)) = true then some (PyData.int (a * ((i : Int) + 1))) else none) = (innF a b s).map PyData.int := by
      unfold innF
      generalize List.range (s / a).toNat = L
      induction L with
      | nil => rfl
      | cons x xs ih =>
        rw [List.filterMap_cons, List.filter_cons]
        split
        · rename_i e
          split at e
          · cases e
          · rename_i w
            rw [if_neg w, ih]
        · rename_i y e
          split at e
          · rename_i w
            rw [if_pos w, ih]
            cases e
            rfl
          · cases e
    rw [e]
    (try simp -implicitDefEqProofs -dsimp)
    exact hR
theorem prog {b c st m e : Int} (hs : 1 ≤ st) (hm : 0 ≤ m) (h : ∀ z, (∃ k : Int, 0 ≤ k ∧ k < m ∧ z = b + st * k) ↔ ∃ k : Int, 0 ≤ k ∧ z = c + st * k ∧ z ≤ e) : m = if 0 < (e - c) / st + 1 then (e - c) / st + 1 else 0 := by
  have mo : ∀ i j : Int, i ≤ j → st * i ≤ st * j := fun i j ij => Int.mul_le_mul_of_nonneg_left ij (by omega)
  have z0 : st * 0 = 0 := Int.mul_zero _
  by_cases le : c ≤ e
  · obtain ⟨k, k0, k1, ek⟩ := (h c).mpr ⟨0, Int.le_refl _, by omega, le⟩
    obtain ⟨k', k0', ek', _⟩ := (h b).mp ⟨0, Int.le_refl _, by omega, by omega⟩
    have u1 := mo 0 k k0
    have u2 := mo 0 k' k0'
    have bc : b = c := by omega
    subst bc
    obtain ⟨k2, k20, ek2, le2⟩ := (h (b + st * (m - 1))).mp ⟨m - 1, by omega, by omega, rfl⟩
    have no : ¬ b + st * m ≤ e := fun w => by
      obtain ⟨k3, k30, k31, ek3⟩ := (h (b + st * m)).mpr ⟨m, hm, rfl, w⟩
      have u3 := mo (k3 + 1) m (by omega)
      rw [Int.mul_add, Int.mul_one] at u3
      omega
    have d : (e - b) / st = m - 1 := by
      have l1 : m - 1 ≤ (e - b) / st := Int.le_ediv_of_mul_le (by omega) (by rw [Int.mul_comm]; omega)
      have l2 : (e - b) / st < m := Int.ediv_lt_of_lt_mul (by omega) (by rw [Int.mul_comm]; omega)
      omega
    rw [d, if_pos (by omega)]
    omega
  · have m0 : m = 0 := by
      apply Classical.byContradiction
      intro w
      obtain ⟨k, k0, ek, le'⟩ := (h b).mp ⟨0, Int.le_refl _, by omega, by omega⟩
      have := mo 0 k k0
      omega
    have d : (e - c) / st < 0 := Int.ediv_lt_of_lt_mul (by omega) (by omega)
    rw [if_neg (by omega)]
    exact m0
/-- the law's count of cuts amid -/
theorem amid_law {l h bx : List Int} {ax : Nat} (hl : 1 ≤ gi l ax) (hh : 1 ≤ gi h ax) (od : oddB l h bx ax = false) :
    (timesF (gi l ax) (gi h ax) (gi bx ax) = none → (amidF l h bx ax).2 = 0) ∧ ∀ t, timesF (gi l ax) (gi h ax) (gi bx ax) = some t →
      (amidF l h bx ax).2 = if 0 < (gi bx ax - 1 - (if 0 < t then gi l ax * t else jointF (gi l ax) (gi h ax))) / jointF (gi l ax) (gi h ax) + 1 then (gi bx ax - 1 - (if 0 < t then gi l ax * t else jointF (gi l ax) (gi h ax))) / jointF (gi l ax) (gi h ax) + 1 else 0 := by
  have A := amid_iff (l := l) (h := h) (bx := bx) hl hh
  have An := amid_nn (l := l) (h := h) (bx := bx) hl hh
  have jl := joint_le hl hh
  have jd := (joint_dvd (s := jointF (gi l ax) (gi h ax)) hl hh).mp (Int.dvd_refl _)
  have jp : jointF (gi l ax) (gi h ax) = gi l ax * (gi h ax / gcdI (gi l ax) (gi h ax)) := by
    obtain ⟨a', ea⟩ := gcd_dvd_l (gi l ax) (gi h ax)
    obtain ⟨b', eb⟩ := gcd_dvd_r (gi l ax) (gi h ax)
    obtain ⟨g0, _⟩ := gcd_le (b := gi h ax) hl
    unfold jointF
    generalize gcdI (gi l ax) (gi h ax) = g at *
    rw [show gi h ax / g = b' by rw [eb]; exact Int.mul_ediv_cancel_left _ (by omega), show gi l ax / g = a' by rw [ea]; exact Int.mul_ediv_cancel_left _ (by omega)]
    rw [eb, ea]
    simp only [Int.mul_assoc, Int.mul_comm, Int.mul_left_comm]
  constructor
  · intro ht
    apply Classical.byContradiction
    intro w
    obtain ⟨p, q, _, d1, d2⟩ := (A _).mp ⟨0, Int.le_refl _, by omega, rfl⟩
    refine absurd ?_ (times_none.mp ht)
    have := Int.dvd_add (Int.dvd_trans (gcd_dvd_l (gi l ax) (gi h ax)) d1) (Int.dvd_trans (gcd_dvd_r (gi l ax) (gi h ax)) d2)
    rwa [show ∀ z : Int, z + (gi bx ax - z) = gi bx ax by intro z; omega] at this
  · intro t ht
    obtain ⟨_, t0, t1, td⟩ := times_some hl hh ht
    refine prog (b := (amidF l h bx ax).1) (by omega) An fun z => ?_
    rw [A]
    generalize hj : jointF (gi l ax) (gi h ax) = st at *
    constructor
    · rintro ⟨p, q, _, ⟨x, ex⟩, d2⟩
      have x0 : 0 < x := by
        apply Classical.byContradiction
        intro w
        have := Int.mul_le_mul_of_nonneg_left (show x ≤ 0 by omega) (show 0 ≤ gi l ax by omega)
        omega
      obtain ⟨tl, j, ej⟩ := times_least hl hh ht (show 0 ≤ x by omega) (by rw [← ex]; exact d2)
      have ez : z = gi l ax * t + st * j := by
        rw [ex, show x = t + gi h ax / gcdI (gi l ax) (gi h ax) * j by omega, Int.mul_add, ← Int.mul_assoc, ← jp]
      have j0 : 0 ≤ j := by
        apply Classical.byContradiction
        intro w
        have u1 := Int.mul_le_mul_of_nonneg_left tl (show 0 ≤ gi l ax by omega)
        have u2 := Int.mul_le_mul_of_nonneg_left (show j ≤ -1 by omega) (show 0 ≤ st by omega)
        omega
      by_cases c : 0 < t
      · rw [if_pos c]
        exact ⟨j, j0, ez, by omega⟩
      · have e0 : t = 0 := by omega
        subst e0
        rw [if_neg c]
        rw [Int.mul_zero] at ez
        have j1 : j ≠ 0 := fun e => by
          rw [e, Int.mul_zero] at ez
          omega
        refine ⟨j - 1, by omega, ?_, by omega⟩
        rw [ez, Int.mul_sub, Int.mul_one]
        omega
    · rintro ⟨k, k0, ez, le⟩
      have u := Int.mul_nonneg (show 0 ≤ st by omega) k0
      have v := Int.mul_nonneg (show 0 ≤ gi l ax by omega) t0
      have key : ∃ j, z = gi l ax * t + st * j := by
        by_cases c : 0 < t
        · rw [if_pos c] at ez
          exact ⟨k, ez⟩
        · have e0 : t = 0 := by omega
          subst e0
          rw [if_neg c] at ez
          exact ⟨k + 1, by rw [ez, Int.mul_add, Int.mul_one, Int.mul_zero]; omega⟩
      obtain ⟨j, ej⟩ := key
      have zp : 0 < z := by
        by_cases c : 0 < t
        · rw [if_pos c] at ez
          have := Int.mul_le_mul_of_nonneg_left (show 1 ≤ t by omega) (show 0 ≤ gi l ax by omega)
          omega
        · rw [if_neg c] at ez
          omega
      refine ⟨zp, by omega, od, ?_, ?_⟩
      · rw [ej]
        exact Int.dvd_add (Int.dvd_mul_right ..) (Int.dvd_mul_of_dvd_left jd.1)
      · rw [ej, show gi bx ax - (gi l ax * t + st * j) = (gi bx ax - gi l ax * t) - st * j by omega]
        exact Int.dvd_sub td (Int.dvd_mul_of_dvd_left jd.2)
theorem lcm_joint {a b : Int} (ha : 1 ≤ a) : lcmI a b = jointF a b := by
  unfold lcmI jointF
  exact Int.mul_ediv_assoc' b (gcd_dvd_l a b)
theorem rd_Lmany_cuts : ∀ cs R, sp_Lmany_cuts cs R → w_Lmany_cuts (endsOf cs R) (start0 12 cs) := by
  rintro _ R ⟨a, b, bx, f, ax, rfl, h, l4, ha, hb, hx, hf, hax, hR⟩
  obtain ⟨fl, fp⟩ := h.f1 (f := f)
  obtain ⟨gl, gp⟩ := h.f2 (f := f)
  have pick1 : ([tI a, tI b] : List PyData)[f]? = some (tI (fst2 f a b)) := by
    obtain rfl | rfl : f = 0 ∨ f = 1 := by omega
    · rfl
    · rfl
  have pick2 : atI [tI a, tI b] (1 - (f : Int)) = some (tI (fst2 f b a)) := by
    obtain rfl | rfl : f = 0 ∨ f = 1 := by omega
    · rfl
    · rfl
  have l1 := h.l1
  have g1 := gi_at hax
  have g2 := gi_at (ns := fst2 f a b) (show ax < (fst2 f a b).length by omega)
  have g3 := gi_at (ns := fst2 f b a) (show ax < (fst2 f b a).length by omega)
  have p1 := gi_pos fl hax fp
  have p2 := gi_pos gl hax gp
  have p3 := gi_pos rfl hax h.px
  have b3 := hx _ (gi_mem hax)
  have s1 := shaped_nats (restsF (fst2 f a b) bx)
  have e1 := lN_nil (restsF (fst2 f a b) bx)
  have s2 := shaped_nats (restsF (fst2 f b a) bx)
  have e2 := lN_nil (restsF (fst2 f b a) bx)
  have hm : (cuOf a b bx (f, ax)).many = allF (fst2 f b a) bx + (amidF (fst2 f a b) (fst2 f b a) bx ax).2 + allF (fst2 f a b) bx := rfl
  rw [hm] at hR
  unfold allF at hR
  simp -implicitDefEqProofs -dsimp [w_Lmany_cuts, pick1, pick2, g1]
  refine ask_of (sp := sp_Lrests) ⟨fst2 f a b, bx, rfl, by omega, by omega, fun x hx => (fp x hx).1, ?_⟩
  simp -implicitDefEqProofs -dsimp [s1, e1, shaped_nil]
  refine ask_of (sp := sp_Lrests) ⟨fst2 f b a, bx, rfl, by omega, by omega, fun x hx => (gp x hx).1, ?_⟩
  simp -implicitDefEqProofs -dsimp [s2, e2, shaped_nil, w_Lmany_cuts_s3]
  refine ask_of (sp := sp_Lrests) ⟨fst2 f a b, bx, rfl, by omega, by omega, fun x hx => (fp x hx).1, ?_⟩
  (try simp -implicitDefEqProofs -dsimp)
  refine ask_of (sp := sp_Lrests) ⟨fst2 f b a, bx, rfl, by omega, by omega, fun x hx => (gp x hx).1, ?_⟩
  have lr1 := rests_len (fst2 f a b) bx
  have lr2 := rests_len (fst2 f b a) bx
  simp -implicitDefEqProofs -dsimp [e1, e2]
  refine ⟨by omega, com_map (restsF (fst2 f a b) bx ++ restsF (fst2 f b a) bx) (fun (k : Nat) => .int (k : Int)) (by simp [lN]) (fun k => if k = ax then none else some (.int (k : Int))) (fun k hk acc K hK => ?_) ?_⟩
  · (try simp -implicitDefEqProofs -dsimp)
    by_cases e : k = ax
    · rw [if_pos e] at hK
      rw [if_pos (by omega)]
      simpa using hK
    · rw [if_neg e] at hK
      rw [if_neg (by omega)]
      exact hK
  · rw [fm_ne]
    generalize hW : (restsF (fst2 f a b) bx ++ restsF (fst2 f b a) bx).filter (fun k => !decide (k = ax)) = W
    have sW := shaped_nats W
    have eW := lN_nil W
    have oW : oddB (fst2 f a b) (fst2 f b a) bx ax = true ↔ W ≠ [] := by
      unfold oddB
      rw [← hW, Ne, List.filter_eq_nil_iff, List.any_eq_true]
      constructor
      · rintro ⟨k, m, q⟩ z
        exact z k m q
      · intro z
        apply Classical.byContradiction
        intro q
        exact z fun k m p => q ⟨k, m, p⟩
    have eq : W.map (fun (k : Nat) => PyData.int (k : Int)) = lN W := rfl
    have base : ∀ am : Int, (amidF (fst2 f a b) (fst2 f b a) bx ax).2 = am → R (.int ((if restsF (fst2 f a b) bx = [] then 1 else 0) + (if restsF (fst2 f b a) bx = [] then 1 else 0) + am)) [.d (prD a b), .d (tI bx), .d (.int (f : Int)), .d (.int (ax : Int))] := fun am e => by
      rw [e] at hR
      have : ((if restsF (fst2 f b a) bx = [] then (1 : Int) else 0) + am + (if restsF (fst2 f a b) bx = [] then 1 else 0)) = (if restsF (fst2 f a b) bx = [] then 1 else 0) + (if restsF (fst2 f b a) bx = [] then 1 else 0) + am := by omega
      rw [this] at hR
      exact hR
    have base0 : (amidF (fst2 f a b) (fst2 f b a) bx ax).2 = 0 → R (.int ((if restsF (fst2 f a b) bx = [] then 1 else 0) + (if restsF (fst2 f b a) bx = [] then 1 else 0))) [.d (prD a b), .d (tI bx), .d (.int (f : Int)), .d (.int (ax : Int))] := fun e => by
      have := base 0 e
      rwa [Int.add_zero] at this
    rw [eq]
    simp -implicitDefEqProofs -dsimp [sW, shaped_nil, eW, e1, e2]
    by_cases hw : W = []
    · rw [if_pos hw]
      have od : oddB (fst2 f a b) (fst2 f b a) bx ax = false := by
        cases q : oddB (fst2 f a b) (fst2 f b a) bx ax with
        | false => rfl
        | true => exact absurd hw (oW.mp q)
      obtain ⟨am0, am1⟩ := amid_law p1.1 p2.1 od
      simp -implicitDefEqProofs -dsimp [w_Lmany_cuts_t2, g2, g3]
      refine ask_of (sp := sp_Lleast) ⟨_, _, _, rfl, p1, p2, p3, ?_⟩
      simp -implicitDefEqProofs -dsimp [g2, g3]
      refine ask_of (sp := sp_Llcm) ⟨_, _, rfl, p1, p2, ?_⟩
      have ej : lcmI (gi (fst2 f a b) ax) (gi (fst2 f b a) ax) = jointF (gi (fst2 f a b) ax) (gi (fst2 f b a) ax) := lcm_joint p1.1
      rw [ej]
      have jl := joint_le p1.1 p2.1
      have jb : 0 < jointF (gi (fst2 f a b) ax) (gi (fst2 f b a) ax) ∧ (jointF (gi (fst2 f a b) ax) (gi (fst2 f b a) ax)).natAbs.log2 < 9000 := h.lg (f := f) hax
      cases ht : timesF (gi (fst2 f a b) ax) (gi (fst2 f b a) ax) (gi bx ax) with
      | none =>
        simp -implicitDefEqProofs -dsimp [timD, w_Lmany_cuts_s2, isNone]
        exact base0 (am0 ht)
      | some t =>
        obtain ⟨_, t0, t1, td⟩ := times_some p1.1 p2.1 ht
        obtain ⟨tb0, tb1⟩ := times_big p1 p2 ht
        have cm : CMul (gi (fst2 f a b) ax) t ∨ CMulW (gi (fst2 f a b) ax) t := mul_big (by unfold BIG at *; omega) p1.2 (by unfold BIG at *; omega) tb1
        have am := base _ (am1 t ht)
        simp -implicitDefEqProofs -dsimp [timD, w_Lmany_cuts_s2, isNone, w_Lmany_cuts_t1, g2]
        by_cases c : 0 < t
        · simp only [if_pos c] at am ⊢
          exact ⟨cm, jb, am⟩
        · simp only [if_neg c] at am ⊢
          exact ⟨jb, am⟩
    · rw [if_neg hw]
      have od := oW.mpr hw
      refine base0 ?_
      unfold amidF
      rw [if_pos (.inr od)]
theorem perm_of {α : Type} [DecidableEq α] : ∀ {l m : List α}, l.Nodup → m.Nodup → (∀ x, x ∈ l ↔ x ∈ m) → l.length = m.length
  | [], m, _, _, h => by
    cases m with
    | nil => rfl
    | cons y ys => exact absurd ((h y).mpr (by simp)) (by simp)
  | x :: xs, m, hl, hm, h => by
    have hx : x ∈ m := (h x).mp (by simp)
    obtain ⟨n1, n2⟩ := List.nodup_cons.mp hl
    have := perm_of n2 (hm.erase x) fun y => by
      rw [hm.mem_erase_iff]
      constructor
      · intro hy
        exact ⟨fun e => n1 (e ▸ hy), (h y).mp (List.mem_cons_of_mem _ hy)⟩
      · rintro ⟨ne, hy⟩
        rcases List.mem_cons.mp ((h y).mpr hy) with q | q
        · exact absurd q ne
        · exact q
    rw [List.length_cons, this, List.length_erase_of_mem hx]
    have := List.length_pos_of_mem hx
    omega
/-- the places of the cuts of a line -/
def posL (a b bx : List Int) (f ax : Nat) : List Int := ((List.range (gi bx ax + 1).toNat).filter fun (z : Nat) => cutB (fst2 f a b) (fst2 f b a) bx ax (z : Int)).map fun (z : Nat) => (z : Int)
theorem posL_cuts (a b bx : List Int) (f ax : Nat) : cutsA a b bx f ax = (posL a b bx f ax).map fun z => (f, ax, z) := by
  unfold cutsA posL
  rw [List.map_map]
  rfl
theorem posL_asc (a b bx : List Int) (f ax : Nat) : (posL a b bx f ax).Pairwise (· < ·) := by
  unfold posL
  rw [List.pairwise_map]
  exact (List.Pairwise.filter _ List.pairwise_lt_range).imp fun {x y} q => by omega
theorem posL_nodup (a b bx : List Int) (f ax : Nat) : (posL a b bx f ax).Nodup := (posL_asc a b bx f ax).imp fun {x y} q e => by omega
theorem mem_pos {a b bx : List Int} {f ax : Nat} {z : Int} (s0 : 0 ≤ gi bx ax) : z ∈ posL a b bx f ax ↔ 0 ≤ z ∧ z ≤ gi bx ax ∧ cutB (fst2 f a b) (fst2 f b a) bx ax z = true := by
  unfold posL
  simp only [List.mem_map, List.mem_filter, List.mem_range]
  constructor
  · rintro ⟨x, ⟨hx, hc⟩, rfl⟩
    exact ⟨by omega, by omega, hc⟩
  · rintro ⟨z0, z1, hc⟩
    exact ⟨z.toNat, ⟨by omega, by rw [Int.toNat_of_nonneg z0]; exact hc⟩, by omega⟩
theorem cut_flip (l h bx : List Int) (ax : Nat) (z : Int) : cutB h l bx ax (gi bx ax - z) = cutB l h bx ax z := by
  unfold cutB
  rw [show gi bx ax - (gi bx ax - z) = z by omega, Bool.and_comm]
theorem pos_mirror {a b bx : List Int} {ax : Nat} (s0 : 0 ≤ gi bx ax) : (posL a b bx 1 ax).length = (posL a b bx 0 ax).length := by
  rw [← List.length_map (f := fun z => gi bx ax - z) (as := posL a b bx 1 ax)]
  refine perm_of ?_ (posL_nodup ..) fun z => ?_
  · unfold List.Nodup
    rw [List.pairwise_map]
    exact (posL_nodup a b bx 1 ax).imp fun {x y} ne e => ne (by omega)
  · simp only [List.mem_map, mem_pos s0]
    constructor
    · rintro ⟨x, ⟨x0, x1, hc⟩, rfl⟩
      exact ⟨by omega, by omega, by rw [← cut_flip] at hc; exact hc⟩
    · rintro ⟨z0, z1, hc⟩
      exact ⟨gi bx ax - z, ⟨by omega, by omega, by rw [← cut_flip] at hc; exact hc⟩, by omega⟩
/-- how many cuts there are with one kind first -/
def sumA (a b bx : List Int) (f : Nat) : Nat := ((List.range bx.length).flatMap fun ax => cutsA a b bx f ax).length
theorem cuts_two (a b bx : List Int) : (cutsL a b bx).length = sumA a b bx 0 + sumA a b bx 1 := by
  rw [cutsL_eq]
  simp only [List.flatMap_cons, List.flatMap_nil, List.append_nil, List.length_append]
  rfl
theorem fm_same {α β γ : Type} {f : α → List β} {g : α → List γ} : ∀ {l : List α}, (∀ x ∈ l, (f x).length = (g x).length) → (l.flatMap f).length = (l.flatMap g).length
  | [], _ => rfl
  | x :: xs, h => by
    rw [List.flatMap_cons, List.flatMap_cons, List.length_append, List.length_append, h x (by simp), fm_same fun y hy => h y (List.mem_cons_of_mem _ hy)]
theorem sum_mirror {a b bx : List Int} (h : ∀ x ∈ bx, 1 ≤ x) : sumA a b bx 1 = sumA a b bx 0 := fm_same fun ax hax => by
  have hax := List.mem_range.mp hax
  have := h _ (gi_mem hax)
  rw [posL_cuts, posL_cuts, List.length_map, List.length_map]
  exact pos_mirror (by omega)
theorem sum_swap (a b bx : List Int) : sumA b a bx 0 = sumA a b bx 1 ∧ sumA b a bx 1 = sumA a b bx 0 := ⟨fm_same fun ax _ => by
  unfold cutsA fst2
  simp, fm_same fun ax _ => by
  unfold cutsA fst2
  simp⟩
/-- neighbors in order -/
theorem adjacent {L : List (Nat × Nat × Int)} (h : L.Pairwise lt3) {n : Nat} {t u w : Nat × Nat × Int} (ht : L[n]? = some t) (hu : L[n + 1]? = some u) (hw : w ∈ L) : lt3 t u ∧ ¬ (lt3 t w ∧ lt3 w u) := by
  obtain ⟨ln, et⟩ := List.getElem?_eq_some_iff.mp ht
  obtain ⟨lu, eu⟩ := List.getElem?_eq_some_iff.mp hu
  obtain ⟨j, lj, ej⟩ := List.mem_iff_getElem.mp hw
  have P := List.pairwise_iff_getElem.mp h
  refine ⟨by rw [← et, ← eu]; exact P n (n + 1) ln lu (by omega), fun ⟨q1, q2⟩ => ?_⟩
  have asym : ∀ {x y : Nat × Nat × Int}, lt3 x y → lt3 y x → False := fun {x y} a b => by
    unfold lt3 at a b
    omega
  rcases Nat.lt_or_ge j n with c | c
  · have := P j n lj ln c
    rw [ej, et] at this
    exact asym this q1
  · rcases Nat.lt_or_ge (n + 1) j with d | d
    · have := P (n + 1) j lu lj d
      rw [ej, eu] at this
      exact asym this q2
    · obtain rfl | rfl : j = n ∨ j = n + 1 := by omega
      · rw [ej] at et
        rw [et] at q1
        exact lt3_irr q1
      · rw [ej] at eu
        rw [eu] at q2
        exact lt3_irr q2
theorem step_of {a b bx : List Int} (h : PB a b bx) {n : Nat} {f ax : Nat} {y z : Int} (ht : (cutsL a b bx)[n]? = some (f, ax, y)) (hu : (cutsL a b bx)[n + 1]? = some (f, ax, z)) (y0 : 0 < y) (z1 : z < gi bx ax) :
    z - y = jointF (gi (fst2 f a b) ax) (gi (fst2 f b a) ax) := by
  have ct := (mem_cutsL h).mp (List.mem_of_getElem? ht)
  have cu := (mem_cutsL h).mp (List.mem_of_getElem? hu)
  obtain ⟨hf, hax, _, _, c1⟩ := ct
  obtain ⟨_, _, _, _, c2⟩ := cu
  simp only at hf hax c1 c2
  obtain ⟨f1, f2⟩ := h.f1 (f := f)
  obtain ⟨g1, g2⟩ := h.f2 (f := f)
  have p1 := gi_pos f1 hax f2
  have p2 := gi_pos g1 hax g2
  have jl := joint_le p1.1 p2.1
  have asc := (adjacent (cutsL_asc a b bx) ht hu (List.mem_of_getElem? ht)).1
  have yz : y < z := by
    unfold lt3 at asc
    simp only at asc
    omega
  have A := amid_iff (l := fst2 f a b) (h := fst2 f b a) (bx := bx) p1.1 p2.1
  obtain ⟨o1, d1, d2⟩ := (cut_amid hax y0 (by omega)).mp c1
  obtain ⟨_, d3, d4⟩ := (cut_amid hax (by omega) z1).mp c2
  obtain ⟨k, k0, k1, ek⟩ := (A y).mpr ⟨y0, by omega, o1, d1, d2⟩
  obtain ⟨j, j0, j1, ej⟩ := (A z).mpr ⟨by omega, z1, o1, d3, d4⟩
  generalize hst : jointF (gi (fst2 f a b) ax) (gi (fst2 f b a) ax) = st at *
  have kj : k < j := by
    apply Classical.byContradiction
    intro w
    have := Int.mul_le_mul_of_nonneg_left (show j ≤ k by omega) (show 0 ≤ st by omega)
    omega
  by_cases e : j = k + 1
  · rw [e, Int.mul_add, Int.mul_one] at ej
    omega
  · have u := Int.mul_le_mul_of_nonneg_left (show k + 2 ≤ j by omega) (show 0 ≤ st by omega)
    rw [Int.mul_add] at u
    obtain ⟨w0, w1, wo, wd1, wd2⟩ := (A ((amidF (fst2 f a b) (fst2 f b a) bx ax).1 + st * (k + 1))).mp ⟨k + 1, by omega, by omega, rfl⟩
    have wc : IsCut a b bx f ax ((amidF (fst2 f a b) (fst2 f b a) bx ax).1 + st * (k + 1)) := ⟨hf, hax, by omega, by omega, (cut_amid hax w0 w1).mpr ⟨wo, wd1, wd2⟩⟩
    have := (adjacent (cutsL_asc a b bx) ht hu ((mem_cutsL h (t := (f, ax, _))).mpr wc)).2
    have em : st * (k + 1) = st * k + st := by rw [Int.mul_add, Int.mul_one]
    have q1 : y < (amidF (fst2 f a b) (fst2 f b a) bx ax).1 + st * (k + 1) := by omega
    have q2 : (amidF (fst2 f a b) (fst2 f b a) bx ax).1 + st * (k + 1) < z := by omega
    exact absurd ⟨.inr ⟨rfl, .inr ⟨rfl, q1⟩⟩, .inr ⟨rfl, .inr ⟨rfl, q2⟩⟩⟩ this
theorem joint_comm {a b : Int} (ha : 1 ≤ a) (hb : 1 ≤ b) : jointF a b = jointF b a := by
  have j1 := joint_le ha hb
  have j2 := joint_le hb ha
  have d1 := (joint_dvd (s := jointF b a) ha hb).mpr (by have := (joint_dvd (s := jointF b a) hb ha).mp (Int.dvd_refl _); exact ⟨this.2, this.1⟩)
  have d2 := (joint_dvd (s := jointF a b) hb ha).mpr (by have := (joint_dvd (s := jointF a b) ha hb).mp (Int.dvd_refl _); exact ⟨this.2, this.1⟩)
  exact Int.dvd_antisymm (by omega) (by omega) d1 d2
theorem tri_lt {f ax f' ax' : Nat} {z z' : Int} (h : lt3 (f, ax, z) (f', ax', z')) : W.dataLt (.tuple [.int (f : Int), .int (ax : Int), .int z]) (.tuple [.int (f' : Int), .int (ax' : Int), .int z']) = true := by
  rw [W.dataLt_tuple]
  have e := W.dataLt_ints [(f : Int), (ax : Int), z] [(f' : Int), (ax' : Int), z']
  refine Eq.trans e ?_
  rw [decide_eq_true_eq, List.cons_lt_cons_iff, List.cons_lt_cons_iff, List.cons_lt_cons_iff]
  unfold lt3 at h
  simp only at h
  rcases h with h | ⟨h1, h | ⟨h2, h3⟩⟩
  · exact .inl (by omega)
  · exact .inr ⟨by omega, .inl (by omega)⟩
  · exact .inr ⟨by omega, .inr ⟨by omega, .inl h3⟩⟩
theorem rd_law_t6 {a : Addr} {ns : List Int} {a1 a2 a3 : Addr} {i : Nat} {p q bx : List Int} {c6 c7 c8 c9 d1 d2 d3 d4 d5 d6 d7 d8 d9 e1 e2 e3 : Cell} {K B : DS → Prop} {T : PyData → DS → Prop} (h : PB p q bx) (l4 : bx.length ≤ 4) (hp : In (10 ^ 13) p) (hq : In (10 ^ 13) q) (hb : In (10 ^ 13) bx) (m0 : 0 < (cutsL p q bx).length)
    (hK : ∀ c6 c7 c8 c9 d1 d2 d3 d4 d5 d6 d7 d8 d9 e1 e2 e3 : Cell, K [.scr a ns, .dk a1 a2 a3, .d (.int (i : Int)), .d (prD p q), .d (tI bx), .d (.int ((cutsL p q bx).length : Int)), c6, c7, c8, c9, d1, d2, d3, d4, d5, d6, d7, d8, d9, e1, e2, e3]) :
    w_law_t6 { nx := K, rt := T, bk := B, ct := K } [.scr a ns, .dk a1 a2 a3, .d (.int (i : Int)), .d (prD p q), .d (tI bx), .d (.int ((cutsL p q bx).length : Int)), c6, c7, c8, c9, d1, d2, d3, d4, d5, d6, d7, d8, d9, e1, e2, e3] := by
  have cl := cutsL_lenM h (M := 10 ^ 13) (fun x hx => (hb x hx).2) (clL bx.length) fun l hl => (mem_clL.mp hl).2
  rw [← cutsL_cl, clL_len] at cl
  have px := fun i (hi : i < bx.length) => (gi_pos rfl hi h.px).1
  simp -implicitDefEqProofs -dsimp [w_law_t6]
  refine ask_draw (by omega) (by omega) fun r1 r10 r11 => ?_
  (try simp -implicitDefEqProofs -dsimp)
  refine ask_draw (by omega) (by omega) fun r2 r20 r21 => ?_
  (try simp -implicitDefEqProofs -dsimp)
  refine for_plain ([0, ((cutsL p q bx).length : Int) - 1, r1, r2] : List Int) PyData.int rfl (fun rest δ => ∃ c6 c7 c8 c9 d1 d2 d3 d4 d5 d6 d7 d8 d9 e1 e2 e3 : Cell, δ = [.scr a ns, .dk a1 a2 a3, .d (.int (i : Int)), .d (prD p q), .d (tI bx), .d (.int ((cutsL p q bx).length : Int)), c6, c7, c8, c9, d1, d2, d3, d4, d5, d6, d7, d8, d9, e1, e2, e3] ∧ ∀ n ∈ rest, 0 ≤ n ∧ n < ((cutsL p q bx).length : Int)) ⟨_, _, _, _, _, _, _, _, _, _, _, _, _, _, _, _, rfl, ?_⟩ ?_ ?_
  · intro n hn
    simp only [List.mem_cons, List.not_mem_nil, or_false] at hn
    rcases hn with rfl | rfl | rfl | rfl <;> omega
  · rintro δ ⟨c6, c7, c8, c9, d1, d2, d3, d4, d5, d6, d7, d8, d9, e1, e2, e3, rfl, _⟩
    exact hK ..
  · rintro n rest δ ⟨c6, c7, c8, c9, d1, d2, d3, d4, d5, d6, d7, d8, d9, e1, e2, e3, rfl, hn⟩ K B T hK
    obtain ⟨n0, n1⟩ := hn n (by simp)
    have hK := fun c6 c7 c8 c9 d1 d2 d3 d4 d5 d6 d7 d8 d9 e1 e2 e3 => hK _ ⟨c6, c7, c8, c9, d1, d2, d3, d4, d5, d6, d7, d8, d9, e1, e2, e3, rfl, fun k hk => hn k (List.mem_cons_of_mem _ hk)⟩
    obtain ⟨⟨f, ax, z⟩, et⟩ : ∃ t, (cutsL p q bx)[n.toNat]? = some t := ⟨_, List.getElem?_eq_getElem (by omega)⟩
    have tm := List.mem_of_getElem? et
    have tc := (mem_cutsL h).mp tm
    obtain ⟨hf, hax, z0, z1, hc⟩ := tc
    simp only at hf hax z0 z1 hc
    have ea : atF (cutsL p q bx) (.int n) = some (f, ax, z) := by
      simp only [atF]
      rw [if_pos n0, et]
    have g1 := gi_at hax
    have b3 := hb _ (gi_mem hax)
    have num : ∀ (f' : Nat) (z' : Int), f' ≤ 1 → numF (cutsL p q bx) (.tuple [.int (f' : Int), .int (ax : Int), .int z']) = if (f', ax, z') ∈ cutsL p q bx then .int ((cutsL p q bx).idxOf (f', ax, z') : Int) else .none := fun f' z' hf' => by
      simp only [numF, Int.toNat_natCast]
      by_cases m : (f', ax, z') ∈ cutsL p q bx
      · rw [if_pos m, if_pos ⟨by omega, by omega, m⟩]
      · rw [if_neg m, if_neg fun q => m q.2.2]
    have mem : ∀ (f' : Nat) (z' : Int), f' ≤ 1 → ((f', ax, z') ∈ cutsL p q bx ↔ 0 ≤ z' ∧ z' ≤ gi bx ax ∧ cutB (fst2 f' p q) (fst2 f' q p) bx ax z' = true) := fun f' z' hf' => by
      rw [mem_cutsL h]
      exact ⟨fun c => c.2.2, fun c => ⟨hf', hax, c⟩⟩
    have ix := idx_of (cutsL_nodup p q bx) et
    simp -implicitDefEqProofs -dsimp [w_law_8]
    refine ask_of (sp := sp_cut_at) ⟨p, q, bx, _, rfl, h, ?_⟩
    rw [ea]
    simp -implicitDefEqProofs -dsimp [triD, w_law_s9, g1]
    refine ask_of (sp := sp_is_integer) ⟨_, _, _, rfl, ?_⟩
    have wz : wholeB 0 (gi bx ax) (.int z) = true := by simp [wholeB]; omega
    rw [wz]
    (try simp -implicitDefEqProofs -dsimp)
    refine ask_of (sp := sp_Lis_cut) ⟨p, q, bx, f, ax, z, rfl, h, hf, hax, ?_⟩
    rw [hc]
    simp -implicitDefEqProofs -dsimp [w_law_t5]
    refine ask_of (sp := sp_cut_number) ⟨p, q, bx, _, rfl, h, rfl, ?_⟩
    rw [num f z hf, if_pos tm, ix]
    have sn : Shp false 1 100 (.int n) := (Shp.int64 (by omega) (by omega)).mono (Nat.le_refl _) (by decide)
    have en : ((n.toNat : Nat) : Int) = n := by omega
    rw [en]
    (try simp -implicitDefEqProofs -dsimp)
    refine sn.repr (sn.repr ?_)
    have ef : (1 : Int) - (f : Int) = ((1 - f : Nat) : Int) := by omega
    have hla := h.la
    have hlb := h.lb
    have gp1 := gi_at (ns := p) (show ax < p.length by omega)
    have gp2 := gi_at (ns := q) (show ax < q.length by omega)
    have pp1 : Pos (gi p ax) := h.pa _ (gi_mem (by omega))
    have pp2 : Pos (gi q ax) := h.pb _ (gi_mem (by omega))
    have t3 : ∀ c6 c7 d1 d2 d3 d4 d5 d6 d7 d8 d9 e1 e2 e3 : Cell, w_law_t3 { nx := K, rt := T, bk := B, ct := K } [.scr a ns, .dk a1 a2 a3, .d (.int (i : Int)), .d (prD p q), .d (tI bx), .d (.int ((cutsL p q bx).length : Int)), c6, c7, .d (.int n), .d (.tuple [.int (f : Int), .int (ax : Int), .int z]), d1, d2, d3, d4, d5, d6, d7, d8, d9, e1, e2, e3] := by
      intro c6 c7 d1 d2 d3 d4 d5 d6 d7 d8 d9 e1 e2 e3
      have fin : ∀ u : Option (Nat × Nat × Int), (∀ f' ax' z', u = some (f', ax', z') → (cutsL p q bx)[n.toNat + 1]? = some (f', ax', z')) → w_law_s7 { nx := K, rt := T, bk := B, ct := K } [.scr a ns, .dk a1 a2 a3, .d (.int (i : Int)), .d (prD p q), .d (tI bx), .d (.int ((cutsL p q bx).length : Int)), c6, c7, .d (.int n), .d (.tuple [.int (f : Int), .int (ax : Int), .int z]), d1, d2, .d (match u with | some t => triD t | none => .none), d4, d5, d6, d7, d8, d9, e1, e2, e3] := by
        intro u hu
        cases u with
        | none =>
          simp -implicitDefEqProofs -dsimp [w_law_s7, isNone, w_law_t2, g1, gp1, gp2]
          refine ask_of (sp := sp_Llcm) ⟨_, _, rfl, pp1, pp2, ?_⟩
          simp -implicitDefEqProofs -dsimp [isNone]
          exact hK ..
        | some u =>
          obtain ⟨f', ax', z'⟩ := u
          have eu := hu f' ax' z' rfl
          have asc := (adjacent (cutsL_asc p q bx) et eu tm).1
          simp -implicitDefEqProofs -dsimp [w_law_s7, isNone, triD, tri_lt asc]
          refine ⟨⟨rfl, rfl⟩, by simp [W.alike, W.alikeAll], by simp [PyData.depth, PyData.depthAll], ?_⟩
          simp -implicitDefEqProofs -dsimp [w_law_t2, g1, gp1, gp2]
          refine ask_of (sp := sp_Llcm) ⟨_, _, rfl, pp1, pp2, ?_⟩
          have e2 : ∀ i j k : Int, DL.cutD [PyData.int i, PyData.int j, PyData.int k] none (some 2) = [PyData.int i, PyData.int j] := fun i j k => cutD_take _ 2
          have sh := fun i j : Int => shaped_tI [i, j]
          simp only [tI, List.map_cons, List.map_nil] at sh
          simp -implicitDefEqProofs -dsimp [isNone, e2, sh, g1]
          by_cases same : f' = f ∧ ax' = ax
          · obtain ⟨rfl, rfl⟩ := same
            rw [if_pos (by simp [PyData.eqvAll, PyData.eqv])]
            by_cases c0 : 0 < z
            · rw [if_pos c0]
              by_cases c1 : z' < gi bx ax'
              · rw [if_pos c1]
                have st := step_of h et eu c0 c1
                have es : lcmI (gi p ax') (gi q ax') = z' - z := by
                  rw [st, lcm_joint pp1.1]
                  obtain rfl | rfl : f' = 0 ∨ f' = 1 := by omega
                  · rfl
                  · exact joint_comm pp1.1 pp2.1
                rw [es]
                simp -implicitDefEqProofs -dsimp [w_law_2]
                exact hK ..
              · rw [if_neg c1]
                exact hK ..
            · rw [if_neg c0]
              exact hK ..
          · rw [if_neg fun w => same (by
              simp [PyData.eqvAll, PyData.eqv] at w
              omega)]
            exact hK ..
      simp -implicitDefEqProofs -dsimp [w_law_t3, -w_law_s7_ap]
      by_cases c : n + 1 < ((cutsL p q bx).length : Int)
      · rw [if_pos c]
        refine ask_of (sp := sp_cut_at) ⟨p, q, bx, _, rfl, h, ?_⟩
        obtain ⟨u, eu⟩ : ∃ t, (cutsL p q bx)[n.toNat + 1]? = some t := ⟨_, List.getElem?_eq_getElem (by omega)⟩
        have ea : atF (cutsL p q bx) (.int (n + 1)) = some u := by
          simp only [atF]
          rw [if_pos (by omega), show (n + 1).toNat = n.toNat + 1 by omega, eu]
        rw [ea]
        have := fin (some u) fun f' ax' z' e => by
          rw [eu, e]
        unfold triD at this
        simp -implicitDefEqProofs -dsimp [triD, -w_law_s7_ap]
        exact this
      · rw [if_neg c]
        exact fin none fun _ _ _ e => by cases e
    simp -implicitDefEqProofs -dsimp [w_law_t4, ef]
    refine for_plain [(f, z + 1), (f, z - 1), (1 - f, z)] (fun y : Nat × Int => .tuple [.int (y.1 : Int), .int (ax : Int), .int y.2]) rfl (fun rest δ => ∃ c6 c7 d1 d2 d3 d4 d5 d6 d7 d8 d9 e1 e2 e3 : Cell, δ = [.scr a ns, .dk a1 a2 a3, .d (.int (i : Int)), .d (prD p q), .d (tI bx), .d (.int ((cutsL p q bx).length : Int)), c6, c7, .d (.int n), .d (.tuple [.int (f : Int), .int (ax : Int), .int z]), d1, d2, d3, d4, d5, d6, d7, d8, d9, e1, e2, e3] ∧ ∀ y ∈ rest, y.1 ≤ 1) ⟨_, _, _, _, _, _, _, _, _, _, _, _, _, _, rfl, ?_⟩ ?_ ?_
    · intro y hy
      simp only [List.mem_cons, List.not_mem_nil, or_false] at hy
      rcases hy with rfl | rfl | rfl
      · exact hf
      · exact hf
      · show 1 - f ≤ 1
        omega
    · rintro δ ⟨c6, c7, d1, d2, d3, d4, d5, d6, d7, d8, d9, e1, e2, e3, rfl, _⟩
      exact t3 ..
    · rintro ⟨f', z'⟩ rest δ ⟨c6, c7, d1, d2, d3, d4, d5, d6, d7, d8, d9, e1, e2, e3, rfl, hy⟩ K B T hK
      have hf' : f' ≤ 1 := hy (f', z') (by simp)
      have hK := fun d1 d2 => hK _ ⟨c6, c7, d1, d2, d3, d4, d5, d6, d7, d8, d9, e1, e2, e3, rfl, fun y hy' => hy y (List.mem_cons_of_mem _ hy')⟩
      have m := mem f' z' hf'
      have fin : ∀ c : Bool, (c = true ↔ (f', ax, z') ∈ cutsL p q bx) → w_law_s8 { nx := K, rt := T, bk := B, ct := K } [.scr a ns, .dk a1 a2 a3, .d (.int (i : Int)), .d (prD p q), .d (tI bx), .d (.int ((cutsL p q bx).length : Int)), c6, c7, .d (.int n), .d (.tuple [.int (f : Int), .int (ax : Int), .int z]), .d (.tuple [.int (f' : Int), .int (ax : Int), .int z']), .d (.bool c), d3, d4, d5, d6, d7, d8, d9, e1, e2, e3] := by
        intro c hc
        simp -implicitDefEqProofs -dsimp [w_law_s8]
        refine ask_of (sp := sp_cut_number) ⟨p, q, bx, _, rfl, h, rfl, ?_⟩
        rw [num f' z' hf']
        cases c with
        | true =>
          rw [if_pos (hc.mp rfl)]
          simp -implicitDefEqProofs -dsimp [isNone]
          exact hK ..
        | false =>
          rw [if_neg fun w => by cases hc.mpr w]
          simp -implicitDefEqProofs -dsimp [isNone]
          exact hK ..
      simp -implicitDefEqProofs -dsimp [w_law_4, g1, -w_law_s8_ap]
      by_cases c0 : 0 ≤ z'
      · rw [if_pos c0]
        by_cases c1 : z' ≤ gi bx ax
        · rw [if_pos c1]
          refine ask_of (sp := sp_Lis_cut) ⟨p, q, bx, f', ax, z', rfl, h, hf', hax, ?_⟩
          simp -implicitDefEqProofs -dsimp [-w_law_s8_ap]
          refine fin _ ?_
          rw [m]
          exact ⟨fun w => ⟨c0, c1, w⟩, fun w => w.2.2⟩
        · rw [if_neg c1]
          exact fin false ⟨fun w => (by cases w), fun w => absurd (m.mp w).2.1 c1⟩
      · rw [if_neg c0]
        exact fin false ⟨fun w => (by cases w), fun w => absurd (m.mp w).1 c0⟩
theorem perm_mem {α : Type} [DecidableEq α] : ∀ {l m : List α}, l.Nodup → m.Nodup → (∀ x, x ∈ l ↔ x ∈ m) → l.Perm m
  | [], m, _, _, h => by
    cases m with
    | nil => exact .refl _
    | cons y ys => exact absurd ((h y).mpr (by simp)) (by simp)
  | x :: xs, m, hl, hm, h => by
    have hx : x ∈ m := (h x).mp (by simp)
    obtain ⟨n1, n2⟩ := List.nodup_cons.mp hl
    have := perm_mem n2 (hm.erase x) fun y => by
      rw [hm.mem_erase_iff]
      constructor
      · intro hy
        exact ⟨fun e => n1 (e ▸ hy), (h y).mp (List.mem_cons_of_mem _ hy)⟩
      · rintro ⟨ne, hy⟩
        rcases List.mem_cons.mp ((h y).mpr hy) with q | q
        · exact absurd q ne
        · exact q
    exact (this.cons x).trans (List.perm_cons_erase hx).symm
theorem int_srt (V : List Int) : W.AllAlike (V.map PyData.int) ∧ W.Sortable (V.map PyData.int) ∧ ∀ d ∈ V.map PyData.int, d.depth ≤ 50 := by
  refine ⟨fun d hd e he => ?_, .inr fun d hd => ?_, fun d hd => ?_⟩
  · obtain ⟨_, _, rfl⟩ := List.mem_map.mp hd
    obtain ⟨_, _, rfl⟩ := List.mem_map.mp he
    simp [W.alike]
  · obtain ⟨_, _, rfl⟩ := List.mem_map.mp hd
    exact ⟨(fun e => by cases e), (fun _ e => by cases e)⟩
  · obtain ⟨_, _, rfl⟩ := List.mem_map.mp hd
    simp [PyData.depth]
theorem sort_int {V P : List Int} (hV : V.Nodup) (hP : P.Pairwise (· < ·)) (h : ∀ x, x ∈ V ↔ x ∈ P) : sortD (V.map PyData.int) = P.map PyData.int := by
  have nP : P.Nodup := hP.imp fun {a b} q e => by omega
  rw [sort_perm (int_srt V).1 ((perm_mem hV nP h).map _)]
  unfold sortD
  refine List.mergeSort_of_pairwise ?_
  rw [List.pairwise_map]
  refine hP.imp fun {a b} q => ?_
  show (!W.dataLt (.int b) (.int a)) = true
  rw [W.dataLt_int]
  simp
  omega
theorem mem_inn {a b s z : Int} (a0 : 1 ≤ a) (s0 : 0 ≤ s) : z ∈ innF a b s ↔ ∃ k : Int, 1 ≤ k ∧ z = a * k ∧ 0 < s - z ∧ (s - z) % b = 0 := by
  unfold innF
  simp only [List.mem_map, List.mem_filter, List.mem_range, Bool.and_eq_true, decide_eq_true_eq]
  constructor
  · rintro ⟨i, ⟨hi, h1, h2⟩, rfl⟩
    exact ⟨(i : Int) + 1, by omega, rfl, h1, h2⟩
  · rintro ⟨k, k1, rfl, h1, h2⟩
    have l : k ≤ s / a := Int.le_ediv_of_mul_le (by omega) (by rw [Int.mul_comm]; omega)
    refine ⟨(k - 1).toNat, ⟨by omega, ?_⟩, ?_⟩
    · rw [show (((k - 1).toNat : Nat) : Int) + 1 = k by omega]
      exact ⟨h1, h2⟩
    · rw [show (((k - 1).toNat : Nat) : Int) + 1 = k by omega]
theorem inn_nodup {a b s : Int} (a0 : 1 ≤ a) : (innF a b s).Nodup := by
  unfold innF List.Nodup
  rw [List.pairwise_map]
  refine (List.Pairwise.filter _ List.nodup_range).imp fun {x y} ne e => ne ?_
  have := Int.eq_of_mul_eq_mul_left (show a ≠ 0 by omega) e
  omega
theorem inn_len (a b s : Int) : (innF a b s).length ≤ (s / a).toNat := by
  unfold innF
  rw [List.length_map]
  exact Nat.le_trans (List.length_filter_le _ _) (by rw [List.length_range]; exact Nat.le_refl _)
theorem rd_law_t1 {a : Addr} {ns : List Int} {R : PyData → List Cell → Prop} {a1 a2 a3 : Addr} {x y s : Int} {c2 c3 c4 c5 c6 c7 c8 c9 d1 d2 d3 d4 d8 d9 e1 e2 e3 : Cell} (x0 : 100000000000 ≤ x) (x1 : x < 200000000000) (y0 : 100000000000 ≤ y) (y1 : y < 200000000000) (s0 : 1 ≤ s) (s1 : s ≤ 1000000000000) (hR : ∀ cs', R (.bool true) cs') :
    w_law_t1 (endsOf [.scr a ns] R) [.scr a ns, .dk a1 a2 a3, c2, c3, c4, c5, c6, c7, c8, c9, d1, d2, d3, d4, .d (.int x), .d (.int y), .d (.int s), d8, d9, e1, e2, e3] := by
  have s3 : ∀ (W : List Int) (d8 : Cell), W = (if s % y = 0 then [0] else []) ++ (if s % x = 0 then [s] else []) → w_law_s3 (endsOf [.scr a ns] R) [.scr a ns, .dk a1 a2 a3, c2, c3, c4, c5, c6, c7, c8, c9, d1, d2, d3, d4, .d (.int x), .d (.int y), .d (.int s), .d (.list (W.map PyData.int)), d9, e1, e2, e3] := by
    intro W d8 eW
    have h : PB [x] [y] [s] := ⟨rfl, rfl, by simp, by simp, fun z hz => by rw [List.mem_singleton.mp hz]; exact Pos.of (by omega) (by omega), fun z hz => by rw [List.mem_singleton.mp hz]; exact Pos.of (by omega) (by omega), fun z hz => by rw [List.mem_singleton.mp hz]; exact Pos.of (by omega) (by omega)⟩
    have gs : gi [s] 0 = s := rfl
    have q0 : 0 ≤ s / x := Int.ediv_nonneg (by omega) (by omega)
    have q1 : s / x ≤ 10 := by
      have : s / x < 11 := Int.ediv_lt_of_lt_mul (by omega) (by omega)
      omega
    have li := inn_len x y s
    have lW : W.length ≤ 2 := by
      rw [eW]
      split <;> split <;> simp
    have cut1 : ∀ z, cutB [x] [y] [s] 0 z = true ↔ (z = 0 ∨ x ∣ z) ∧ (s - z = 0 ∨ y ∣ s - z) := fun z => by
      unfold cutB
      rw [Bool.and_eq_true, cpart_iff (show 0 < [s].length from Nat.one_pos), cpart_iff (show 0 < [s].length from Nat.one_pos)]
      simp [gi]
    have hP := posL_asc [x] [y] [s] 0 0
    have mP : ∀ z, z ∈ W ++ innF x y s ↔ z ∈ posL [x] [y] [s] 0 0 := fun z => by
      rw [mem_pos (by rw [gs]; omega), List.mem_append, mem_inn (by omega) (by omega), gs]
      show _ ↔ _ ∧ _ ∧ cutB [x] [y] [s] 0 z = true
      rw [cut1]
      have W0 : z ∈ W ↔ (z = 0 ∧ y ∣ s) ∨ (z = s ∧ x ∣ s) := by
        rw [eW, List.mem_append, Int.dvd_iff_emod_eq_zero, Int.dvd_iff_emod_eq_zero]
        by_cases c1 : s % y = 0 <;> by_cases c2 : s % x = 0 <;> simp [c1, c2]
      rw [W0]
      constructor
      · rintro ((⟨rfl, d⟩ | ⟨rfl, d⟩) | ⟨k, k1, rfl, q1, q2⟩)
        · exact ⟨by omega, by omega, .inl rfl, .inr (by rwa [Int.sub_zero])⟩
        · exact ⟨by omega, by omega, .inr d, .inl (by omega)⟩
        · have := Int.mul_nonneg (show 0 ≤ x by omega) (show 0 ≤ k by omega)
          exact ⟨by omega, by omega, .inr (Int.dvd_mul_right ..), .inr (Int.dvd_of_emod_eq_zero q2)⟩
      · rintro ⟨z0, z1, c1, c2⟩
        by_cases e0 : z = 0
        · subst e0
          refine .inl (.inl ⟨rfl, ?_⟩)
          rcases c2 with q | q
          · omega
          · rwa [Int.sub_zero] at q
        · by_cases e1 : z = s
          · subst e1
            refine .inl (.inr ⟨rfl, ?_⟩)
            rcases c1 with q | q
            · omega
            · exact q
          · rcases c1 with q | ⟨k, rfl⟩
            · exact absurd q e0
            · have k1 : 1 ≤ k := by
                apply Classical.byContradiction
                intro w
                have := Int.mul_le_mul_of_nonneg_left (show k ≤ 0 by omega) (show 0 ≤ x by omega)
                omega
              refine .inr ⟨k, k1, rfl, by omega, ?_⟩
              rcases c2 with q | q
              · omega
              · exact Int.emod_eq_zero_of_dvd q
    have nV : (W ++ innF x y s).Nodup := by
      rw [List.nodup_append]
      refine ⟨?_, inn_nodup (by omega), fun u hu v hv e => ?_⟩
      · rw [eW]
        split <;> split <;> simp
        omega
      · subst e
        obtain ⟨k, k1, ek, q1, _⟩ := (mem_inn (by omega) (by omega)).mp hv
        have := Int.mul_le_mul_of_nonneg_left k1 (show 0 ≤ x by omega)
        rw [eW] at hu
        rcases List.mem_append.mp hu with w | w
        · split at w
          · have := List.mem_singleton.mp w
            omega
          · cases w
        · split at w
          · have := List.mem_singleton.mp w
            omega
          · cases w
    have es := sort_int nV hP mP
    obtain ⟨o1, o2, o3⟩ := int_srt (W ++ innF x y s)
    simp -implicitDefEqProofs -dsimp [w_law_s3]
    refine ask_of (sp := sp_Linner) ⟨x, y, s, rfl, by omega, by omega, by omega, by omega, by omega, by omega, by omega, ?_⟩
    rw [List.map_append] at es o1 o2
    simp -implicitDefEqProofs -dsimp [-w_law_s2_ap]
    rw [es]
    refine ⟨by omega, o1, o2, by omega, ?_, ?_⟩
    · rintro d (⟨_, _, rfl⟩ | ⟨_, _, rfl⟩) <;> simp [PyData.depth]
    have pA : cutsL [x] [y] [s] = cutsA [x] [y] [s] 0 0 ++ cutsA [x] [y] [s] 1 0 := by
      rw [cutsL_eq]
      simp
    have lP : (posL [x] [y] [s] 0 0).length ≤ 12 := by
      have := congrArg List.length es
      unfold sortD at this
      rw [List.length_mergeSort, List.length_append, List.length_map, List.length_map, List.length_map] at this
      omega
    have l2 : (cutsL [x] [y] [s]).length = 2 * (posL [x] [y] [s] 0 0).length := by
      have m := pos_mirror (a := [x]) (b := [y]) (bx := [s]) (ax := 0) (by rw [gs]; omega)
      rw [pA, List.length_append, posL_cuts, posL_cuts, List.length_map, List.length_map]
      omega
    have at1 : ∀ k, k < (posL [x] [y] [s] 0 0).length → (cutsL [x] [y] [s])[k]? = some (0, 0, gi (posL [x] [y] [s] 0 0) k) := fun k hk => by
      rw [pA, posL_cuts, List.getElem?_append_left (by rw [List.length_map]; exact hk), List.getElem?_map, gi_at hk]
      rfl
    have bP : ∀ z ∈ posL [x] [y] [s] 0 0, 0 ≤ z ∧ z ≤ s := fun z hz => by
      have := (mem_pos (by rw [gs]; omega)).mp hz
      rw [gs] at this
      exact ⟨this.1, this.2.1⟩
    generalize posL [x] [y] [s] 0 0 = P at *
    have sT : Shp false 3 4000 (.list (P.map fun z => triD (0, 0, z))) := by
      refine (Shp.list (ShpL.map (n := 2) (w := 300) (k := 12) (fun z hz => ?_) lP)).mono (Nat.le_refl _) (by decide)
      have := bP z hz
      show Shp false 2 300 (.tuple [.int 0, .int 0, .int z])
      exact Shp.tuple (n := 1) (w := 280) ((ShpL.cons (Shp.int64 (by decide) (by decide)) (ShpL.cons (Shp.int64 (by decide) (by decide)) (ShpL.cons (Shp.int64 (by omega) (by omega)) ShpL.nil))).mono (Nat.le_refl _) (by decide)) |>.mono (Nat.le_refl _) (by decide)
    have eP : (List.range P.length).map (fun k => triD (0, 0, gi P k)) = P.map fun z => triD (0, 0, z) := by
      refine List.ext_getElem (by simp) fun i h1 h2 => ?_
      have hi : i < P.length := by simpa using h2
      have := gi_at hi
      rw [List.getElem?_eq_getElem hi] at this
      rw [List.getElem_map, List.getElem_map, List.getElem_range, Option.some.inj this]
    simp -implicitDefEqProofs -dsimp [w_law_s2, -w_law_s1_ap]
    refine ⟨by omega, com_map (List.range P.length) (fun (i : Nat) => .int (i : Int)) (nums_0 _) (fun k => some (triD (0, 0, gi P k))) (fun k hk acc K hK => ?_) ?_⟩
    · have hk := List.mem_range.mp hk
      (try simp -implicitDefEqProofs -dsimp)
      refine ask_of (sp := sp_cut_at) ⟨[x], [y], [s], _, rfl, h, ?_⟩
      have ea : atF (cutsL [x] [y] [s]) (.int (k : Int)) = some (0, 0, gi P k) := by
        simp only [atF]
        rw [if_pos (by omega), Int.toNat_natCast, at1 k hk]
      rw [ea]
      unfold triD at hK ⊢
      (try simp -implicitDefEqProofs -dsimp)
      exact hK
    · rw [fmap_some, eP]
      generalize hT : P.map (fun z => triD (0, 0, z)) = T at *
      simp -implicitDefEqProofs -dsimp [w_law_s1]
      refine sT.repr (com_map P PyData.int rfl (fun z => some (.tuple [.int 0, .int 0, .int z])) (fun z hz acc K hK => ?_) ?_)
      · (try simp -implicitDefEqProofs -dsimp)
        exact hK
      · have e2 : P.map (fun z => PyData.tuple [.int 0, .int 0, .int z]) = T := by rw [← hT]; rfl
        rw [fmap_some, e2]
        (try simp -implicitDefEqProofs -dsimp)
        refine sT.repr (ask_of (sp := sp_count_cuts) ⟨[x], [y], [s], rfl, h, ?_⟩)
        rw [l2]
        have e3 : ((2 * P.length : Nat) : Int) = 2 * (P.length : Int) := by omega
        have cm : CMul 2 (P.length : Int) ∨ CMulW 2 (P.length : Int) := cm_l (by decide)
        simp -implicitDefEqProofs -dsimp [e3]
        exact ⟨cm, hR _⟩
  simp -implicitDefEqProofs -dsimp [w_law_t1, -w_law_s3_ap]
  refine ⟨by omega, by split <;> omega, by split <;> omega, by split <;> omega, by omega, by split <;> omega, by split <;> omega, by split <;> omega, by split <;> split <;> decide, ?_⟩
  have e : List.replicate (if s % y = 0 then (1 : Int) else 0).toNat (PyData.int 0) ++ List.replicate (if s % x = 0 then (1 : Int) else 0).toNat (PyData.int s) = ((if s % y = 0 then [0] else []) ++ (if s % x = 0 then [s] else [])).map PyData.int := by
    split <;> split <;> rfl
  rw [e]
  exact s3 _ d8 rfl
theorem rd_law : ∀ cs R, sp_law cs R → w_law (endsOf cs R) (start0 22 cs) := by
  rintro _ R ⟨a, ns, rfl, hR⟩
  simp -implicitDefEqProofs -dsimp [w_law]
  refine ask_deck fun a1 a2 a3 => ?_
  simp -implicitDefEqProofs -dsimp [w_law_s13]
  refine for_cnt 0 8 (fun i δ => ∃ c2 c3 c4 c5 c6 c7 c8 c9 d1 d2 d3 d4 d5 d6 d7 d8 d9 e1 e2 e3 : Cell, δ = [.scr a ns, .dk a1 a2 a3, c2, c3, c4, c5, c6, c7, c8, c9, d1, d2, d3, d4, d5, d6, d7, d8, d9, e1, e2, e3]) ⟨_, _, _, _, _, _, _, _, _, _, _, _, _, _, _, _, _, _, _, _, rfl⟩ ?_ ?_
  · rintro δ ⟨c2, c3, c4, c5, c6, c7, c8, c9, d1, d2, d3, d4, d5, d6, d7, d8, d9, e1, e2, e3, rfl⟩
    simp -implicitDefEqProofs -dsimp [w_law_t8, CPow]
    refine ask_draw (by omega) (by omega) fun r1 r10 r11 => ?_
    simp -implicitDefEqProofs -dsimp [CPow]
    refine ask_draw (by omega) (by omega) fun r2 r20 r21 => ?_
    simp -implicitDefEqProofs -dsimp [-w_law_s5_ap]
    obtain ⟨x, ex⟩ : ∃ x : Int, 100000000000 + r1 = x := ⟨_, rfl⟩
    obtain ⟨y, ey⟩ : ∃ y : Int, 100000000000 + r2 = y := ⟨_, rfl⟩
    rw [ex, ey]
    simp -implicitDefEqProofs -dsimp [w_law_s5]
    refine ask_draw (by omega) (by omega) fun r3 r30 r31 => ?_
    have cx : CMul x r3 ∨ CMulW x r3 := cm_l (by omega)
    have s3 := Int.mul_le_mul_of_nonneg_left (show r3 ≤ 3 by omega) (show 0 ≤ x by omega)
    have s30 := Int.mul_nonneg (show 0 ≤ x by omega) r30
    (try simp -implicitDefEqProofs -dsimp)
    refine ⟨cx, ask_draw (by omega) (by omega) fun r4 r40 r41 => ?_⟩
    have cy : CMul y (1 + r4) ∨ CMulW y (1 + r4) := cm_l (by omega)
    have s4 := Int.mul_le_mul_of_nonneg_left (show 1 + r4 ≤ 3 by omega) (show 0 ≤ y by omega)
    have s40 := Int.mul_le_mul_of_nonneg_left (show 1 ≤ 1 + r4 by omega) (show 0 ≤ y by omega)
    (try simp -implicitDefEqProofs -dsimp)
    refine ⟨cy, ?_⟩
    obtain ⟨s, es⟩ : ∃ s : Int, x * r3 + y * (1 + r4) = s := ⟨_, rfl⟩
    rw [es]
    simp -implicitDefEqProofs -dsimp [w_law_s4, CPow]
    by_cases big : 1000000000000 < s
    · rw [if_pos big]
      exact hR _
    · rw [if_neg big]
      exact rd_law_t1 (by omega) (by omega) (by omega) (by omega) (by omega) (by omega) (fun cs => hR cs)
  · rintro i δ hi ⟨c2, c3, c4, c5, c6, c7, c8, c9, d1, d2, d3, d4, d5, d6, d7, d8, d9, e1, e2, e3, rfl⟩ K B T hK
    simp -implicitDefEqProofs -dsimp [w_law_11]
    refine ask_draw (by omega) (by omega) fun r r0 r1 => ?_
    (try simp -implicitDefEqProofs -dsimp)
    obtain ⟨n, en⟩ : ∃ n : Nat, 1 + r = (n : Int) := ⟨(1 + r).toNat, by omega⟩
    rw [en]
    refine ask_of (sp := sp_Lscaled) ⟨a1, a2, a3, n, rfl, by omega, by omega, fun p q g => ?_⟩
    simp -implicitDefEqProofs -dsimp [w_law_s12]
    refine ask_of (sp := sp_Lgreat_filled) ⟨a1, a2, a3, p, q, n, rfl, g, fun bx hbo => ?_⟩
    obtain ⟨lp, lq, n0, n1, pp, pq⟩ := g
    obtain ⟨lb, hb, fb⟩ := hbo
    have h : PB p q bx := ⟨by omega, by omega, by omega, by omega, fun x hx => Pos.of (pp x hx).1 (by have := pp x hx; omega), fun x hx => Pos.of (pq x hx).1 (by have := pq x hx; omega), fun x hx => Pos.of (hb x hx).1 (by have := hb x hx; omega)⟩
    have hpp : In (10 ^ 13) p := fun x hx => by have := pp x hx; omega
    have hqq : In (10 ^ 13) q := fun x hx => by have := pq x hx; omega
    simp -implicitDefEqProofs -dsimp [w_law_s11]
    refine ask_of (sp := sp_count_cuts) ⟨p, q, bx, rfl, h, ?_⟩
    simp -implicitDefEqProofs -dsimp [w_law_s10]
    refine ask_of (sp := sp_Llines) ⟨bx, rfl, by omega, ?_⟩
    (try simp -implicitDefEqProofs -dsimp)
    refine com_map (clL bx.length) (fun l => .tuple [.int (l.1 : Int), .int (l.2 : Int)]) rfl (fun l => some (.int (cuOf p q bx l).many)) (fun l hl acc K hK => ?_) ?_
    · obtain ⟨l1', l2'⟩ := mem_clL.mp hl
      (try simp -implicitDefEqProofs -dsimp)
      refine ask_of (sp := sp_Lmany_cuts) ⟨p, q, bx, l.1, l.2, rfl, h, by omega, hpp, hqq, hb, l1', l2', ?_⟩
      (try simp -implicitDefEqProofs -dsimp)
      exact hK
    · rw [fmap_some, show (fun l => PyData.int (cuOf p q bx l).many) = PyData.int ∘ (fun l => (cuOf p q bx l).many) from rfl, ← List.map_map]
      simp -implicitDefEqProofs -dsimp [-List.map_map]
      rw [many_sum h _ fun l hl => (mem_clL.mp hl).2, ← cutsL_cl]
      have px := fun x hx => (hb x hx).1
      have sm := sum_mirror (a := p) (b := q) px
      have c2 := cuts_two p q bx
      have c3 := cuts_two q p bx
      rw [(sum_swap p q bx).1, (sum_swap p q bx).2] at c3
      have m0 : 0 < (cutsL p q bx).length := by
        obtain ⟨f, ax, z, c⟩ := (fill_cut h).mp (fillB_iff.mpr fb)
        exact List.length_pos_of_mem ((mem_cutsL h (t := (f, ax, z))).mpr c)
      have e3 : (cutsL q p bx).length = (cutsL p q bx).length := by omega
      have e4 : ((cutsL p q bx).length : Int) % 2 = 0 := by omega
      have nl : ¬ ((cutsL p q bx).length : Int) < 1 := by omega
      simp -implicitDefEqProofs -dsimp [w_law_t7]
      refine ask_of (sp := sp_count_cuts) ⟨q, p, bx, rfl, h.swap, ?_⟩
      rw [e3]
      simp -implicitDefEqProofs -dsimp [nl, e4]
      refine rd_law_t6 h (by omega) hpp hqq hb m0 fun _ _ _ _ _ _ _ _ _ _ _ _ _ _ _ _ => hK _ ⟨_, _, _, _, _, _, _, _, _, _, _, _, _, _, _, _, _, _, _, _, rfl⟩
end K17
set_option Elab.async false
set_option linter.all false
set_option maxRecDepth 100000
set_option maxHeartbeats 4000000
namespace K17
open PySem PySem.Spec PyProof.Rows L2 DL TW
variable [DL.Tb]
def topS (i : Nat) : Stmt := PySem.Challenge.pw_twobricks_k17_cuts_of_great_boxes.main.body.getD i (.Pass ⟨0, 0, 0, 0⟩)
abbrev s_Cuts_many : Stmt := clsS (topS 23) 1
theorem sc_Cuts_many : FnScope ["self"] ["self"] (defScope s_Cuts_many) := ⟨rfl, rfl, rfl, by decide +kernel, rfl, by decide +kernel, by decide +kernel⟩
abbrev s_common : Stmt := topS 7
theorem sc_common : FnScope ["one", "other"] ["one", "other"] (defScope s_common) := ⟨rfl, rfl, rfl, by decide +kernel, rfl, by decide +kernel, by decide +kernel⟩
abbrev s_joint : Stmt := topS 8
theorem sc_joint : FnScope ["one", "other"] ["one", "other"] (defScope s_joint) := ⟨rfl, rfl, rfl, by decide +kernel, rfl, by decide +kernel, by decide +kernel⟩
abbrev s_inverse : Stmt := topS 9
theorem sc_inverse : FnScope ["one", "other", "left", "right", "now", "later", "times"] ["one", "other"] (defScope s_inverse) := ⟨rfl, rfl, rfl, by decide +kernel, rfl, by decide +kernel, by decide +kernel⟩
abbrev s_least_times : Stmt := topS 10
theorem sc_least_times : FnScope ["one", "other", "side", "part"] ["one", "other", "side"] (defScope s_least_times) := ⟨rfl, rfl, rfl, by decide +kernel, rfl, by decide +kernel, by decide +kernel⟩
abbrev s_rests : Stmt := topS 16
theorem sc_rests : FnScope ["brick", "box", "axis", "side"] ["brick", "box"] (defScope s_rests) := ⟨rfl, rfl, rfl, by decide +kernel, rfl, by decide +kernel, by decide +kernel⟩
abbrev s_Cuts_init : Stmt := clsS (topS 23) 0
theorem sc_Cuts_init : FnScope ["self", "pair", "box", "first", "axis", "low", "high", "side", "rest", "k", "times"] ["self", "pair", "box", "first", "axis"] (defScope s_Cuts_init) := ⟨rfl, rfl, rfl, by decide +kernel, rfl, by decide +kernel, by decide +kernel⟩
abbrev s_all_cuts : Stmt := topS 24
theorem sc_all_cuts : FnScope ["pair", "box", "found", "first", "axis"] ["pair", "box"] (defScope s_all_cuts) := ⟨rfl, rfl, rfl, by decide +kernel, rfl, by decide +kernel, by decide +kernel⟩
abbrev s_count_cuts : Stmt := topS 25
theorem sc_count_cuts : FnScope ["pair", "box", "first", "axis", "cuts"] ["pair", "box"] (defScope s_count_cuts) := ⟨rfl, rfl, rfl, by decide +kernel, rfl, by decide +kernel, by decide +kernel⟩
abbrev s_is_integer : Stmt := topS 4
theorem sc_is_integer : FnScope ["value", "low", "high"] ["value", "low", "high"] (defScope s_is_integer) := ⟨rfl, rfl, rfl, by decide +kernel, rfl, by decide +kernel, by decide +kernel⟩
abbrev s_Cuts_spot : Stmt := clsS (topS 23) 2
theorem sc_Cuts_spot : FnScope ["self", "number", "inner"] ["self", "number"] (defScope s_Cuts_spot) := ⟨rfl, rfl, rfl, by decide +kernel, rfl, by decide +kernel, by decide +kernel⟩
abbrev s_cut_at : Stmt := topS 26
theorem sc_cut_at : FnScope ["pair", "box", "number", "left", "found", "first", "axis", "cuts", "many"] ["pair", "box", "number"] (defScope s_cut_at) := ⟨rfl, rfl, rfl, by decide +kernel, rfl, by decide +kernel, by decide +kernel⟩
abbrev s_with_side : Stmt := topS 5
theorem sc_with_side : FnScope ["sides", "axis", "side"] ["sides", "axis", "side"] (defScope s_with_side) := ⟨rfl, rfl, rfl, by decide +kernel, rfl, by decide +kernel, by decide +kernel⟩
abbrev s_is_part : Stmt := topS 17
theorem sc_is_part : FnScope ["brick", "box", "axis", "side"] ["brick", "box", "axis", "side"] (defScope s_is_part) := ⟨rfl, rfl, rfl, by decide +kernel, rfl, by decide +kernel, by decide +kernel⟩
abbrev s_is_cut : Stmt := topS 18
theorem sc_is_cut : FnScope ["pair", "box", "first", "axis", "at"] ["pair", "box", "first", "axis", "at"] (defScope s_is_cut) := ⟨rfl, rfl, rfl, by decide +kernel, rfl, by decide +kernel, by decide +kernel⟩
abbrev s_bar_along : Stmt := topS 19
theorem sc_bar_along : FnScope ["pair", "box", "axis", "one", "other", "side", "times", "more"] ["pair", "box", "axis"] (defScope s_bar_along) := ⟨rfl, rfl, rfl, by decide +kernel, rfl, by decide +kernel, by decide +kernel⟩
abbrev s_crossing : Stmt := topS 20
theorem sc_crossing : FnScope ["pair", "box", "found", "i", "j"] ["pair", "box"] (defScope s_crossing) := ⟨rfl, rfl, rfl, by decide +kernel, rfl, by decide +kernel, by decide +kernel⟩
abbrev s_bar_papers : Stmt := topS 21
theorem sc_bar_papers : FnScope ["pair", "box", "found", "axis", "bar"] ["pair", "box"] (defScope s_bar_papers) := ⟨rfl, rfl, rfl, by decide +kernel, rfl, by decide +kernel, by decide +kernel⟩
abbrev s_paper_holds : Stmt := topS 22
theorem sc_paper_holds : FnScope ["pair", "box", "value", "item"] ["pair", "box", "value"] (defScope s_paper_holds) := ⟨rfl, rfl, rfl, by decide +kernel, rfl, by decide +kernel, by decide +kernel⟩
abbrev s_Cuts_rank : Stmt := clsS (topS 23) 3
theorem sc_Cuts_rank : FnScope ["self", "at"] ["self", "at"] (defScope s_Cuts_rank) := ⟨rfl, rfl, rfl, by decide +kernel, rfl, by decide +kernel, by decide +kernel⟩
abbrev s_cut_number : Stmt := topS 27
theorem sc_cut_number : FnScope ["pair", "box", "value", "before", "first", "axis", "cuts"] ["pair", "box", "value"] (defScope s_cut_number) := ⟨rfl, rfl, rfl, by decide +kernel, rfl, by decide +kernel, by decide +kernel⟩
abbrev s_Ldeck : Stmt := topS 29
theorem sc_Ldeck : FnScope ["_law_script", "_law_cells", "_law_cell"] ["_law_script"] (defScope s_Ldeck) := ⟨rfl, rfl, rfl, by decide +kernel, rfl, by decide +kernel, by decide +kernel⟩
abbrev s_Ldraw : Stmt := topS 30
theorem sc_Ldraw : FnScope ["_law_deck_here", "_law_many", "_law_rest", "_law_cell", "_law_mixed"] ["_law_deck_here", "_law_many"] (defScope s_Ldraw) := ⟨rfl, rfl, rfl, by decide +kernel, rfl, by decide +kernel, by decide +kernel⟩
abbrev s_Lwhole : Stmt := topS 33
theorem sc_Lwhole : FnScope ["_law_value", "_law_least_here", "_law_most"] ["_law_value", "_law_least_here", "_law_most"] (defScope s_Lwhole) := ⟨rfl, rfl, rfl, by decide +kernel, rfl, by decide +kernel, by decide +kernel⟩
abbrev s_Ldivisor : Stmt := topS 32
theorem sc_Ldivisor : FnScope ["_law_one_here", "_law_other"] ["_law_one_here", "_law_other"] (defScope s_Ldivisor) := ⟨rfl, rfl, rfl, by decide +kernel, rfl, by decide +kernel, by decide +kernel⟩
abbrev s_Llcm : Stmt := topS 34
theorem sc_Llcm : FnScope ["_law_one_here", "_law_other"] ["_law_one_here", "_law_other"] (defScope s_Llcm) := ⟨rfl, rfl, rfl, by decide +kernel, rfl, by decide +kernel, by decide +kernel⟩
abbrev s_Lrests : Stmt := topS 35
theorem sc_Lrests : FnScope ["_law_brick", "_law_box", "_law_axis"] ["_law_brick", "_law_box"] (defScope s_Lrests) := ⟨rfl, rfl, rfl, by decide +kernel, rfl, by decide +kernel, by decide +kernel⟩
abbrev s_Lwith : Stmt := topS 36
theorem sc_Lwith : FnScope ["_law_sides", "_law_axis", "_law_side"] ["_law_sides", "_law_axis", "_law_side"] (defScope s_Lwith) := ⟨rfl, rfl, rfl, by decide +kernel, rfl, by decide +kernel, by decide +kernel⟩
abbrev s_Lis_part : Stmt := topS 37
theorem sc_Lis_part : FnScope ["_law_brick", "_law_box", "_law_axis", "_law_side"] ["_law_brick", "_law_box", "_law_axis", "_law_side"] (defScope s_Lis_part) := ⟨rfl, rfl, rfl, by decide +kernel, rfl, by decide +kernel, by decide +kernel⟩
abbrev s_Lis_cut : Stmt := topS 38
theorem sc_Lis_cut : FnScope ["_law_pair", "_law_box", "_law_value", "_law_first", "_law_axis", "_law_at"] ["_law_pair", "_law_box", "_law_value"] (defScope s_Lis_cut) := ⟨rfl, rfl, rfl, by decide +kernel, rfl, by decide +kernel, by decide +kernel⟩
abbrev s_Lone : Stmt := topS 31
theorem sc_Lone : FnScope ["_law_deck_here", "_law_items"] ["_law_deck_here", "_law_items"] (defScope s_Lone) := ⟨rfl, rfl, rfl, by decide +kernel, rfl, by decide +kernel, by decide +kernel⟩
abbrev s_Lscaled : Stmt := topS 39
theorem sc_Lscaled : FnScope ["_law_deck_here", "_law_axes", "_law_k", "_law_b"] ["_law_deck_here", "_law_axes"] (defScope s_Lscaled) := ⟨rfl, rfl, rfl, by decide +kernel, rfl, by decide +kernel, by decide +kernel⟩
abbrev s_Lgreat_filled : Stmt := topS 40
theorem sc_Lgreat_filled : FnScope ["_law_deck_here", "_law_pair", "_law_brick", "_law_side", "_law_axis", "_law_found", "_law_k"] ["_law_deck_here", "_law_pair"] (defScope s_Lgreat_filled) := ⟨rfl, rfl, rfl, by decide +kernel, rfl, by decide +kernel, by decide +kernel⟩
abbrev s_Linner : Stmt := topS 42
theorem sc_Linner : FnScope ["_law_one_here", "_law_other", "_law_side", "_law_k"] ["_law_one_here", "_law_other", "_law_side"] (defScope s_Linner) := ⟨rfl, rfl, rfl, by decide +kernel, rfl, by decide +kernel, by decide +kernel⟩
abbrev s_Llines : Stmt := topS 43
theorem sc_Llines : FnScope ["_law_box", "_law_axis"] ["_law_box"] (defScope s_Llines) := ⟨rfl, rfl, rfl, by decide +kernel, rfl, by decide +kernel, by decide +kernel⟩
abbrev s_Lleast : Stmt := topS 41
theorem sc_Lleast : FnScope ["_law_one_here", "_law_other", "_law_side", "_law_part", "_law_low", "_law_high", "_law_now", "_law_later", "_law_times"] ["_law_one_here", "_law_other", "_law_side"] (defScope s_Lleast) := ⟨rfl, rfl, rfl, by decide +kernel, rfl, by decide +kernel, by decide +kernel⟩
abbrev s_Lmany_cuts : Stmt := topS 44
theorem sc_Lmany_cuts : FnScope ["_law_pair", "_law_box", "_law_first", "_law_axis", "_law_low", "_law_high", "_law_side", "_law_found", "_law_k", "_law_times", "_law_step", "_law_least_here"] ["_law_pair", "_law_box", "_law_first", "_law_axis"] (defScope s_Lmany_cuts) := ⟨rfl, rfl, rfl, by decide +kernel, rfl, by decide +kernel, by decide +kernel⟩
abbrev s_law : Stmt := topS 45
theorem sc_law : FnScope ["_law_script", "_law_deck_here", "_law_turn", "_law_pair", "_law_box", "_law_many", "_law_first", "_law_axis", "_law_number", "_law_cut", "_law_near", "_law_is_cut_here", "_law_later", "_law_step", "_law_one_here", "_law_other", "_law_side", "_law_ends", "_law_due", "_law_told", "_law_k", "_law_at"] ["_law_script"] (defScope s_law) := ⟨rfl, rfl, rfl, by decide +kernel, rfl, by decide +kernel, by decide +kernel⟩
set_option maxHeartbeats 0 in
theorem ok_Cuts_many {P : Program} {w : World} {K : PySem.W.Frag} {mg : Str → Option Value} {base : Heap} {f : Addr} {fd : FuncData} (F : Fun K "many" "Cuts.many" s_Cuts_many f fd) {C_Cuts : Addr} (ob_Cuts : ObjK K "Cuts" C_Cuts) (na_Cuts_at_begin : NoAttr K C_Cuts "at_begin") (na_Cuts_amid : NoAttr K C_Cuts "amid") (na_Cuts_at_end : NoAttr K C_Cuts "at_end") : FnG P w K mg base CX0 1 f fd ["self"] (liftSp K sp_Cuts_many) := by
  have nd := sc_Cuts_many.nd
  refine okD (wb := w_Cuts_many) F sc_Cuts_many ln_Cuts_many (fun cdv A outer s H E hr => ?_) rd_Cuts_many
  exact (jss_one (js_ret (je_op d_addB (je_op d_addB (je_fld ob_Cuts.at_ na_Cuts_at_begin (jv 0)) (je_fld ob_Cuts.at_ na_Cuts_amid (jv 0))) (je_fld ob_Cuts.at_ na_Cuts_at_end (jv 0)))))
set_option maxHeartbeats 0 in
theorem ok_common {P : Program} {w : World} {K : PySem.W.Frag} {mg : Str → Option Value} {base : Heap} {f : Addr} {fd : FuncData} (F : Fun K "common" "common" s_common f fd)  : FnG P w K mg base CX0 1 f fd ["one", "other"] (liftSp K sp_common) := by
  have nd := sc_common.nd
  refine okD (wb := w_common) F sc_common ln_common (fun cdv A outer s H E hr => ?_) rd_common
  exact (jss_cons (js_while PassesOwn.never (jt_cmp d_gt (jv 1) je_int) (jss_one (jpar (i := 0) (j := 1) rfl nd rfl rfl (by decide) (jms_cons (jm_e (jv 1)) (jms_cons (jm_e (je_op d_mod (jv 0) (jv 1))) jms_nil)))))
    (jss_one (js_ret (jv 0))))
set_option maxHeartbeats 0 in
theorem ok_joint {P : Program} {w : World} {K : PySem.W.Frag} {mg : Str → Option Value} {base : Heap} {f : Addr} {fd : FuncData} (F : Fun K "joint" "joint" s_joint f fd) {f_common : Addr} {fd_common : FuncData} (F_common : FnG P w K mg base CX0 1 f_common fd_common ["one", "other"] (liftSp K sp_common)) (g_common : mg "common" = some (.ref f_common)) (k_common : PySem.W.keepIn K (.ref f_common) = true) (b_common : Binds K fd_common ["one", "other"] []) : FnG P w K mg base CX0 2 f fd ["one", "other"] (liftSp K sp_joint) := by
  have nd := sc_joint.nd
  replace F_common := F_common.mono (show 1 ≤ 1 by decide)
  refine okD (wb := w_joint) F sc_joint ln_joint (fun cdv A outer s H E hr => ?_) rd_joint
  exact (jss_one (js_ret (je_op d_mulT (je_op d_div (jv 0) (je_call (m := []) F_common hr rfl g_common k_common b_common (ja_cons (jv 0) (ja_cons (jv 1) ja_nil)))) (jv 1))))
set_option maxHeartbeats 0 in
theorem ok_inverse {P : Program} {w : World} {K : PySem.W.Frag} {mg : Str → Option Value} {base : Heap} {f : Addr} {fd : FuncData} (F : Fun K "inverse" "inverse" s_inverse f fd)  : FnG P w K mg base CX0 1 f fd ["one", "other"] (liftSp K sp_inverse) := by
  have nd := sc_inverse.nd
  refine okD (wb := w_inverse) F sc_inverse ln_inverse (fun cdv A outer s H E hr => ?_) rd_inverse
  exact (jss_cons (js_asgG (je_tup (ja_cons (je_op d_mod (jv 0) (jv 1)) (ja_cons (jv 1) (ja_cons je_int (ja_cons je_int ja_nil))))) (jg_tup rfl (jgs_cons (jgn 2 nd) (jgs_cons (jgn 3 nd) (jgs_cons (jgn 4 nd) (jgs_cons (jgn 5 nd) jgs_nil)))) (gs_lenN (gs_lenN (gs_lenN (gs_lenN gs_len0))))))
    (jss_cons (js_while PassesOwn.never (jt_cmp d_gt (jv 2) je_int) (jss_cons (jset 6 nd (jm_e (je_op d_div (jv 3) (jv 2))))
    (jss_cons (jpar (i := 2) (j := 3) rfl nd rfl rfl (by decide) (jms_cons (jm_e (je_op d_subB (jv 3) (je_op d_mulT (jv 6) (jv 2)))) (jms_cons (jm_e (jv 2)) jms_nil)))
    (jss_one (jpar (i := 4) (j := 5) rfl nd rfl rfl (by decide) (jms_cons (jm_e (je_op d_subB (jv 5) (je_op d_mulT (jv 6) (jv 4)))) (jms_cons (jm_e (jv 4)) jms_nil)))))))
    (jss_one (js_ret (je_op d_mod (jv 5) (jv 1))))))
set_option maxHeartbeats 0 in
theorem ok_least_times {P : Program} {w : World} {K : PySem.W.Frag} {mg : Str → Option Value} {base : Heap} {f : Addr} {fd : FuncData} (F : Fun K "least_times" "least_times" s_least_times f fd) {f_inverse : Addr} {fd_inverse : FuncData} (F_inverse : FnG P w K mg base CX0 1 f_inverse fd_inverse ["one", "other"] (liftSp K sp_inverse)) (g_inverse : mg "inverse" = some (.ref f_inverse)) (k_inverse : PySem.W.keepIn K (.ref f_inverse) = true) (b_inverse : Binds K fd_inverse ["one", "other"] []) {f_common : Addr} {fd_common : FuncData} (F_common : FnG P w K mg base CX0 1 f_common fd_common ["one", "other"] (liftSp K sp_common)) (g_common : mg "common" = some (.ref f_common)) (k_common : PySem.W.keepIn K (.ref f_common) = true) (b_common : Binds K fd_common ["one", "other"] []) : FnG P w K mg base CX0 2 f fd ["one", "other", "side"] (liftSp K sp_least_times) := by
  have nd := sc_least_times.nd
  replace F_inverse := F_inverse.mono (show 1 ≤ 1 by decide)
  replace F_common := F_common.mono (show 1 ≤ 1 by decide)
  refine okD (wb := w_least_times) F sc_least_times ln_least_times (fun cdv A outer s H E hr => ?_) rd_least_times
  exact (jss_cons (jset 3 nd (jm_e (je_call (m := []) F_common hr rfl g_common k_common b_common (ja_cons (jv 0) (ja_cons (jv 1) ja_nil)))))
    (jss_cons (js_if (jt_cmp (d_ne hr.u64) (je_op d_mod (jv 2) (jv 3)) je_int) (jss_one (js_ret je_non)) jss_nil)
    (jss_one (js_ret (je_op d_mod (je_op d_mulT (je_op d_div (jv 2) (jv 3)) (je_call (m := []) F_inverse hr rfl g_inverse k_inverse b_inverse (ja_cons (je_op d_div (jv 0) (jv 3)) (ja_cons (je_op d_div (jv 1) (jv 3)) ja_nil)))) (je_op d_div (jv 1) (jv 3)))))))
set_option maxHeartbeats 0 in
theorem ok_rests {P : Program} {w : World} {K : PySem.W.Frag} {mg : Str → Option Value} {base : Heap} {f : Addr} {fd : FuncData} (F : Fun K "rests" "rests" s_rests f fd) (z_enumerate : mg "enumerate" = none) : FnG P w K mg base CX0 1 f fd ["brick", "box"] (liftSp K sp_rests) := by
  have nd := sc_rests.nd
  refine okD (wb := w_rests) F sc_rests ln_rests (fun cdv A outer s H E hr => ?_) rd_rests
  exact (jss_one (js_ret (je_ofL (jl_comp (own := [("axis", 2), ("side", 3)]) rfl nd (ji_enum rfl z_enumerate (ja_cons (jv 1) ja_nil)) (blkOk_by (by kernel_rfl)) (by decide) (fun _ _ _ _ _ => (jg_tup rfl (jgs_cons (jgn 2 nd) (jgs_cons (jgn 3 nd) jgs_nil)) (gs_lenN (gs_lenN gs_len0)))) (fun _ _ _ _ _ => (jts_one (jt_cmp (d_ne hr.u64) (je_op d_mod (jv 3) (je_ix d_ix (jv 0) (jv 2) (fun _ _ => rfl))) je_int))) (fun _ _ _ _ _ => (jv 2))))))
set_option maxHeartbeats 0 in
theorem ok_Cuts_init {P : Program} {w : World} {K : PySem.W.Frag} {mg : Str → Option Value} {base : Heap} {f : Addr} {fd : FuncData} (F : Fun K "__init__" "Cuts.__init__" s_Cuts_init f fd) {C_Cuts : Addr} (ob_Cuts : ObjK K "Cuts" C_Cuts) (na_Cuts_step : NoAttr K C_Cuts "step") (na_Cuts_amid : NoAttr K C_Cuts "amid") (na_Cuts_begin : NoAttr K C_Cuts "begin") (na_Cuts_at_end : NoAttr K C_Cuts "at_end") (na_Cuts_at_begin : NoAttr K C_Cuts "at_begin") (na_Cuts_whole : NoAttr K C_Cuts "whole") (z_int : mg "int" = none) {f_least_times : Addr} {fd_least_times : FuncData} (F_least_times : FnG P w K mg base CX0 2 f_least_times fd_least_times ["one", "other", "side"] (liftSp K sp_least_times)) (g_least_times : mg "least_times" = some (.ref f_least_times)) (k_least_times : PySem.W.keepIn K (.ref f_least_times) = true) (b_least_times : Binds K fd_least_times ["one", "other", "side"] []) {f_rests : Addr} {fd_rests : FuncData} (F_rests : FnG P w K mg base CX0 1 f_rests fd_rests ["brick", "box"] (liftSp K sp_rests)) (g_rests : mg "rests" = some (.ref f_rests)) (k_rests : PySem.W.keepIn K (.ref f_rests) = true) (b_rests : Binds K fd_rests ["brick", "box"] []) {f_joint : Addr} {fd_joint : FuncData} (F_joint : FnG P w K mg base CX0 2 f_joint fd_joint ["one", "other"] (liftSp K sp_joint)) (g_joint : mg "joint" = some (.ref f_joint)) (k_joint : PySem.W.keepIn K (.ref f_joint) = true) (b_joint : Binds K fd_joint ["one", "other"] []) : FnG P w K mg base CX0 3 f fd ["self", "pair", "box", "first", "axis"] (liftSp K sp_Cuts_init) := by
  have nd := sc_Cuts_init.nd
  replace F_least_times := F_least_times.mono (show 2 ≤ 2 by decide)
  replace F_rests := F_rests.mono (show 1 ≤ 2 by decide)
  replace F_joint := F_joint.mono (show 2 ≤ 2 by decide)
  refine okD (wb := w_Cuts_init) F sc_Cuts_init ln_Cuts_init (fun cdv A outer s H E hr => ?_) rd_Cuts_init
  exact (jss_cons (jpar3 (i := 5) (j := 6) (l := 7) rfl nd rfl rfl rfl (by decide) (by decide) (by decide) (jms_cons (jm_e (je_ix d_ix (jv 1) (jv 3) (fun _ _ => rfl))) (jms_cons (jm_e (je_ix d_ix (jv 1) (je_op d_subB je_int (jv 3)) (fun _ _ => rfl))) (jms_cons (jm_e (je_ix d_ix (jv 2) (jv 4) (fun _ _ => rfl))) jms_nil))))
    (jss_cons (js_asgG (jv 7) (jg_attr ob_Cuts.at_ na_Cuts_whole (jpv 0)))
    (jss_cons (js_asgG (je_ty c_int rfl z_int boot_int (ja_cons (je_cmp (d_eq hr.u64) (je_call (m := []) F_rests hr rfl g_rests k_rests b_rests (ja_cons (jv 6) (ja_cons (jv 2) ja_nil))) (je_ofL (jl_lst ja_nil))) ja_nil)) (jg_attr ob_Cuts.at_ na_Cuts_at_begin (jpv 0)))
    (jss_cons (js_asgG (je_ty c_int rfl z_int boot_int (ja_cons (je_cmp (d_eq hr.u64) (je_call (m := []) F_rests hr rfl g_rests k_rests b_rests (ja_cons (jv 5) (ja_cons (jv 2) ja_nil))) (je_ofL (jl_lst ja_nil))) ja_nil)) (jg_attr ob_Cuts.at_ na_Cuts_at_end (jpv 0)))
    (jss_cons (js_asgG (je_tup (ja_cons (je_call (m := []) F_joint hr rfl g_joint k_joint b_joint (ja_cons (je_ix d_ix (jv 5) (jv 4) (fun _ _ => rfl)) (ja_cons (je_ix d_ix (jv 6) (jv 4) (fun _ _ => rfl)) ja_nil))) (ja_cons je_int (ja_cons je_int ja_nil)))) (jg_tup rfl (jgs_cons (jg_attr ob_Cuts.at_ na_Cuts_step (jpv 0)) (jgs_cons (jg_attr ob_Cuts.at_ na_Cuts_begin (jpv 0)) (jgs_cons (jg_attr ob_Cuts.at_ na_Cuts_amid (jpv 0)) jgs_nil))) (gs_lenA (gs_lenA (gs_lenA gs_len0)))))
    (jss_cons (jset 8 nd (jm_e (je_op d_subB (je_op d_subB (jv 7) (je_ix d_ix (jv 5) (jv 4) (fun _ _ => rfl))) (je_ix d_ix (jv 6) (jv 4) (fun _ _ => rfl)))))
    (jss_cons (js_if (jt_w (jw_or (jt_cmp d_lt (jv 8) je_int) (jw_or1 (jt_cmp (d_ne hr.u64) (je_ofL (jl_comp (own := [("k", 9)]) rfl nd (ji_seq (je_op d_addB (je_call (m := []) F_rests hr rfl g_rests k_rests b_rests (ja_cons (jv 5) (ja_cons (jv 2) ja_nil))) (je_call (m := []) F_rests hr rfl g_rests k_rests b_rests (ja_cons (jv 6) (ja_cons (jv 2) ja_nil))))) (blkOk_by (by kernel_rfl)) (by decide) (fun _ _ _ _ _ => (jgn 9 nd)) (fun _ _ _ _ _ => (jts_one (jt_cmp (d_ne hr.u64) (jv 9) (jv 4)))) (fun _ _ _ _ _ => (jv 9)))) (je_ofL (jl_lst ja_nil)))))) (jss_one js_retN) jss_nil)
    (jss_cons (jset 10 nd (jm_e (je_call (m := []) F_least_times hr rfl g_least_times k_least_times b_least_times (ja_cons (je_ix d_ix (jv 5) (jv 4) (fun _ _ => rfl)) (ja_cons (je_ix d_ix (jv 6) (jv 4) (fun _ _ => rfl)) (ja_cons (jv 8) ja_nil))))))
    (jss_one (js_if (jt_w (jw_and (jt_cmp d_isnot (jv 10) je_non) (jw_and1 (jt_cmp d_le (je_op d_mulT (je_ix d_ix (jv 5) (jv 4) (fun _ _ => rfl)) (jv 10)) (jv 8))))) (jss_cons (js_asgG (je_op d_mulT (je_ix d_ix (jv 5) (jv 4) (fun _ _ => rfl)) (je_op d_addB (jv 10) je_int)) (jg_attr ob_Cuts.at_ na_Cuts_begin (jpv 0)))
    (jss_one (js_asgG (je_op d_addB je_int (je_op d_div (je_op d_subB (jv 8) (je_op d_mulT (je_ix d_ix (jv 5) (jv 4) (fun _ _ => rfl)) (jv 10))) (je_fldO ob_Cuts.at_ na_Cuts_step (jpv 0)))) (jg_attr ob_Cuts.at_ na_Cuts_amid (jpv 0))))) jss_nil))))))))))
set_option maxHeartbeats 0 in
theorem ok_all_cuts {P : Program} {w : World} {K : PySem.W.Frag} {mg : Str → Option Value} {base : Heap} {f : Addr} {fd : FuncData} (F : Fun K "all_cuts" "all_cuts" s_all_cuts f fd) {C_Cuts : Addr} (ob_Cuts : ObjK K "Cuts" C_Cuts) (z_len : mg "len" = none) (z_range : mg "range" = none) {f_Cuts_init : Addr} {fd_Cuts_init : FuncData} (F_Cuts_init : FnG P w K mg base CX0 3 f_Cuts_init fd_Cuts_init ["self", "pair", "box", "first", "axis"] (liftSp K sp_Cuts_init)) (mk_Cuts : Mk K C_Cuts f_Cuts_init) (mg_Cuts : mg "Cuts" = some (.ref C_Cuts)) (b_Cuts_init : Binds K fd_Cuts_init ["self", "pair", "box", "first", "axis"] []) : FnG P w K mg base CX0 5 f fd ["pair", "box"] (liftSp K sp_all_cuts) := by
  have nd := sc_all_cuts.nd
  replace F_Cuts_init := F_Cuts_init.mono (show 3 ≤ 3 by decide)
  refine okD (wb := w_all_cuts) F sc_all_cuts ln_all_cuts (fun cdv A outer s H E hr => ?_) rd_all_cuts
  exact (jss_cons (jset 2 nd (jm_l (jl_lst ja_nil)))
    (jss_cons (js_for PassesOwn.never rfl (ji_seq (je_tup (ja_cons je_int (ja_cons je_int ja_nil)))) (jgn 3 nd) (jss_one (js_extend (jpv 2) (je_ofL (jl_comp (own := [("axis", 4)]) rfl nd (ji_range1 rfl z_range (ja_cons (je_fn c_len rfl z_len boot_len (ja_cons (jv 1) ja_nil)) ja_nil)) (blkOk_by (by kernel_rfl)) (by decide) (fun _ _ _ _ _ => (jgn 4 nd)) (fun _ _ _ _ _ => jts_nil) (fun _ _ _ _ _ => (je_tup (ja_cons (jv 3) (ja_cons (jv 4) (ja_cons (je_make ob_Cuts mk_Cuts F_Cuts_init hr b_Cuts_init rfl mg_Cuts (ja_cons (jv 0) (ja_cons (jv 1) (ja_cons (jv 3) (ja_cons (jv 4) ja_nil))))) ja_nil))))))) rfl rfl (pe_bm PySem.F.plainAttrs_list PySem.F.slot_list_extend PySem.F.type_list_extend mt_extend (jpv 2) (pa_cons (je_ofL (jl_comp (own := [("axis", 4)]) rfl nd (ji_range1 rfl z_range (ja_cons (je_fn c_len rfl z_len boot_len (ja_cons (jv 1) ja_nil)) ja_nil)) (blkOk_by (by kernel_rfl)) (by decide) (fun _ _ _ _ _ => (jgn 4 nd)) (fun _ _ _ _ _ => jts_nil) (fun _ _ _ _ _ => (je_tup (ja_cons (jv 3) (ja_cons (jv 4) (ja_cons (je_make ob_Cuts mk_Cuts F_Cuts_init hr b_Cuts_init rfl mg_Cuts (ja_cons (jv 0) (ja_cons (jv 1) (ja_cons (jv 3) (ja_cons (jv 4) ja_nil))))) ja_nil))))))) pa_nil)))))
    (jss_one (js_ret (jv 2)))))
set_option maxHeartbeats 0 in
theorem ok_count_cuts {P : Program} {w : World} {K : PySem.W.Frag} {mg : Str → Option Value} {base : Heap} {f : Addr} {fd : FuncData} (F : Fun K "count_cuts" "count_cuts" s_count_cuts f fd) {C_Cuts : Addr} (ob_Cuts : ObjK K "Cuts" C_Cuts) (z_sum : mg "sum" = none) {f_all_cuts : Addr} {fd_all_cuts : FuncData} (F_all_cuts : FnG P w K mg base CX0 5 f_all_cuts fd_all_cuts ["pair", "box"] (liftSp K sp_all_cuts)) (g_all_cuts : mg "all_cuts" = some (.ref f_all_cuts)) (k_all_cuts : PySem.W.keepIn K (.ref f_all_cuts) = true) (b_all_cuts : Binds K fd_all_cuts ["pair", "box"] []) {f_Cuts_many : Addr} {fd_Cuts_many : FuncData} (F_Cuts_many : FnG P w K mg base CX0 1 f_Cuts_many fd_Cuts_many ["self"] (liftSp K sp_Cuts_many)) (mt_Cuts_many : Meth K C_Cuts "many" f_Cuts_many) (b_Cuts_many : Binds K fd_Cuts_many ["self"] []) : FnG P w K mg base CX0 6 f fd ["pair", "box"] (liftSp K sp_count_cuts) := by
  have nd := sc_count_cuts.nd
  replace F_all_cuts := F_all_cuts.mono (show 5 ≤ 5 by decide)
  replace F_Cuts_many := F_Cuts_many.mono (show 1 ≤ 5 by decide)
  refine okD (wb := w_count_cuts) F sc_count_cuts ln_count_cuts (fun cdv A outer s H E hr => ?_) rd_count_cuts
  exact (jss_one (js_ret (je_fn (c_sum rfl) rfl z_sum boot_sum (ja_cons (je_ofL (jl_comp (own := [("first", 2), ("axis", 3), ("cuts", 4)]) rfl nd (ji_seq (je_call (m := []) F_all_cuts hr rfl g_all_cuts k_all_cuts b_all_cuts (ja_cons (jv 0) (ja_cons (jv 1) ja_nil)))) (blkOk_by (by kernel_rfl)) (by decide) (fun _ _ _ _ _ => (jg_tup rfl (jgs_cons (jgn 2 nd) (jgs_cons (jgn 3 nd) (jgs_cons (jgn 4 nd) jgs_nil))) (gs_lenN (gs_lenN (gs_lenN gs_len0))))) (fun _ _ _ _ _ => jts_nil) (fun _ _ _ _ _ => (je_meth0 ob_Cuts.at_ ob_Cuts.cl mt_Cuts_many F_Cuts_many hr b_Cuts_many (jv 4))))) ja_nil))))
set_option maxHeartbeats 0 in
theorem ok_is_integer {P : Program} {w : World} {K : PySem.W.Frag} {mg : Str → Option Value} {base : Heap} {f : Addr} {fd : FuncData} (F : Fun K "is_integer" "is_integer" s_is_integer f fd) (z_isinstance : mg "isinstance" = none) (z_bool : mg "bool" = none) (z_int : mg "int" = none) : FnG P w K mg base CX0 1 f fd ["value", "low", "high"] (liftSp K sp_is_integer) := by
  have nd := sc_is_integer.nd
  refine okD (wb := w_is_integer) F sc_is_integer ln_is_integer (fun cdv A outer s H E hr => ?_) rd_is_integer
  exact (jss_one (js_ret (je_and (je_isi (T := "int") (by simp) rfl z_isinstance boot_isinstance rfl z_int boot_int (jv 0)) (je_and (je_not (je_isi (T := "bool") (by simp) rfl z_isinstance boot_isinstance rfl z_bool boot_bool (jv 0))) (je_one (je_chain d_le d_le (jv 1) (jv 0) (jv 2)))))))
set_option maxHeartbeats 0 in
theorem ok_Cuts_spot {P : Program} {w : World} {K : PySem.W.Frag} {mg : Str → Option Value} {base : Heap} {f : Addr} {fd : FuncData} (F : Fun K "spot" "Cuts.spot" s_Cuts_spot f fd) {C_Cuts : Addr} (ob_Cuts : ObjK K "Cuts" C_Cuts) (na_Cuts_amid : NoAttr K C_Cuts "amid") (na_Cuts_begin : NoAttr K C_Cuts "begin") (na_Cuts_step : NoAttr K C_Cuts "step") (na_Cuts_whole : NoAttr K C_Cuts "whole") (na_Cuts_at_begin : NoAttr K C_Cuts "at_begin") : FnG P w K mg base CX0 1 f fd ["self", "number"] (liftSp K sp_Cuts_spot) := by
  have nd := sc_Cuts_spot.nd
  refine okD (wb := w_Cuts_spot) F sc_Cuts_spot ln_Cuts_spot (fun cdv A outer s H E hr => ?_) rd_Cuts_spot
  exact (jss_cons (js_if (jt_cmp d_lt (jv 1) (je_fld ob_Cuts.at_ na_Cuts_at_begin (jv 0))) (jss_one (js_ret je_int)) jss_nil)
    (jss_cons (jset 2 nd (jm_e (je_op d_subB (jv 1) (je_fld ob_Cuts.at_ na_Cuts_at_begin (jv 0)))))
    (jss_one (js_ret (je_ifE (jt_cmp d_lt (jv 2) (je_fld ob_Cuts.at_ na_Cuts_amid (jv 0))) (je_op d_addB (je_fld ob_Cuts.at_ na_Cuts_begin (jv 0)) (je_op d_mulT (je_fld ob_Cuts.at_ na_Cuts_step (jv 0)) (jv 2))) (je_fld ob_Cuts.at_ na_Cuts_whole (jv 0)))))))
set_option maxHeartbeats 0 in
theorem ok_cut_at {P : Program} {w : World} {K : PySem.W.Frag} {mg : Str → Option Value} {base : Heap} {f : Addr} {fd : FuncData} (F : Fun K "cut_at" "cut_at" s_cut_at f fd) {TL : XNames} {C_Cuts : Addr} (ob_Cuts : ObjK K "Cuts" C_Cuts) {f_all_cuts : Addr} {fd_all_cuts : FuncData} (F_all_cuts : FnG P w K mg base CX0 5 f_all_cuts fd_all_cuts ["pair", "box"] (liftSp K sp_all_cuts)) (g_all_cuts : mg "all_cuts" = some (.ref f_all_cuts)) (k_all_cuts : PySem.W.keepIn K (.ref f_all_cuts) = true) (b_all_cuts : Binds K fd_all_cuts ["pair", "box"] []) {f_Cuts_spot : Addr} {fd_Cuts_spot : FuncData} (F_Cuts_spot : FnG P w K mg base CX0 1 f_Cuts_spot fd_Cuts_spot ["self", "number"] (liftSp K sp_Cuts_spot)) (mt_Cuts_spot : Meth K C_Cuts "spot" f_Cuts_spot) (b_Cuts_spot : Binds K fd_Cuts_spot ["self", "number"] []) {f_Cuts_many : Addr} {fd_Cuts_many : FuncData} (F_Cuts_many : FnG P w K mg base CX0 1 f_Cuts_many fd_Cuts_many ["self"] (liftSp K sp_Cuts_many)) (mt_Cuts_many : Meth K C_Cuts "many" f_Cuts_many) (b_Cuts_many : Binds K fd_Cuts_many ["self"] []) {f_is_integer : Addr} {fd_is_integer : FuncData} (F_is_integer : FnG P w K mg base CX0 1 f_is_integer fd_is_integer ["value", "low", "high"] (liftSp K sp_is_integer)) (g_is_integer : mg "is_integer" = some (.ref f_is_integer)) (k_is_integer : PySem.W.keepIn K (.ref f_is_integer) = true) (b_is_integer : Binds K fd_is_integer ["value", "low", "high"] []) {f_count_cuts : Addr} {fd_count_cuts : FuncData} (F_count_cuts : FnG P w K mg base CX0 6 f_count_cuts fd_count_cuts ["pair", "box"] (liftSp K sp_count_cuts)) (g_count_cuts : mg "count_cuts" = some (.ref f_count_cuts)) (k_count_cuts : PySem.W.keepIn K (.ref f_count_cuts) = true) (b_count_cuts : Binds K fd_count_cuts ["pair", "box"] []) (x_NoNumber : XC1 P w K mg base TL "NoNumber" "number") : FnG P w K mg base (L2N.CX P w) 7 f fd ["pair", "box", "number"] (liftSpX K TL sp_cut_at) := by
  have nd := sc_cut_at.nd
  replace F_all_cuts := F_all_cuts.mono (show 5 ≤ 6 by decide)
  replace F_Cuts_spot := F_Cuts_spot.mono (show 1 ≤ 6 by decide)
  replace F_Cuts_many := F_Cuts_many.mono (show 1 ≤ 6 by decide)
  replace F_is_integer := F_is_integer.mono (show 1 ≤ 6 by decide)
  replace F_count_cuts := F_count_cuts.mono (show 6 ≤ 6 by decide)
  refine okX (TL := TL) (wb := w_cut_at) F sc_cut_at ln_cut_at (fun cdv A outer s H E hr => ?_) rd_cut_at
  exact (jssx_cons (jsx_if (jt_not (jt_val (je_call (m := []) F_is_integer hr rfl g_is_integer k_is_integer b_is_integer (ja_cons (jv 2) (ja_cons je_int (ja_cons (je_op d_subB (je_call (m := []) F_count_cuts hr rfl g_count_cuts k_count_cuts b_count_cuts (ja_cons (jv 0) (ja_cons (jv 1) ja_nil))) je_int) ja_nil)))))) (jssx_one (jsx_raise rfl (jmk1x x_NoNumber (hr.mono (by decide)) rfl (ja_cons (jv 2) ja_nil)))) (jssx_of jss_nil))
    (jssx_cons (jsx_of (jpar (i := 3) (j := 4) rfl nd rfl rfl (by decide) (jms_cons (jm_e (jv 2)) (jms_cons (jm_e je_non) jms_nil))))
    (jssx_cons (jsx_of (js_for PassesOwn.leaving rfl (ji_seq (je_call (m := []) F_all_cuts hr rfl g_all_cuts k_all_cuts b_all_cuts (ja_cons (jv 0) (ja_cons (jv 1) ja_nil)))) (jg_tup rfl (jgs_cons (jgn 5 nd) (jgs_cons (jgn 6 nd) (jgs_cons (jgn 7 nd) jgs_nil))) (gs_lenN (gs_lenN (gs_lenN gs_len0)))) (jss_cons (jset 8 nd (jm_e (je_meth0 ob_Cuts.at_ ob_Cuts.cl mt_Cuts_many F_Cuts_many hr b_Cuts_many (jv 7))))
    (jss_cons (js_if (jt_w (jw_and (jt_cmp d_is (jv 4) je_non) (jw_and1 (jt_cmp d_lt (jv 3) (jv 8))))) (jss_one (jset 4 nd (jm_e (je_tup (ja_cons (jv 5) (ja_cons (jv 6) (ja_cons (je_meth ob_Cuts.at_ ob_Cuts.cl mt_Cuts_spot F_Cuts_spot hr b_Cuts_spot (jv 7) (ja_cons (jv 3) ja_nil)) ja_nil))))))) jss_nil)
    (jss_one (jaug 3 nd (jv 8) d_isub))))))
    (jssx_one (jsx_of (js_ret (jv 4)))))))
set_option maxHeartbeats 0 in
theorem ok_with_side {P : Program} {w : World} {K : PySem.W.Frag} {mg : Str → Option Value} {base : Heap} {f : Addr} {fd : FuncData} (F : Fun K "with_side" "with_side" s_with_side f fd)  : FnG P w K mg base CX0 1 f fd ["sides", "axis", "side"] (liftSp K sp_Lwith) := by
  have nd := sc_with_side.nd
  refine okD (wb := w_Lwith) F sc_with_side ln_Lwith (fun cdv A outer s H E hr => ?_) rd_Lwith
  exact (jss_one (js_ret (je_op d_addB (je_op d_addB (je_sl d_sl (jv 0) jo_none (jo_some (jv 1))) (je_tup (ja_cons (jv 2) ja_nil))) (je_sl d_sl (jv 0) (jo_some (je_op d_addB (jv 1) je_int)) jo_none))))
set_option maxHeartbeats 0 in
theorem ok_is_part {P : Program} {w : World} {K : PySem.W.Frag} {mg : Str → Option Value} {base : Heap} {f : Addr} {fd : FuncData} (F : Fun K "is_part" "is_part" s_is_part f fd) {f_rests : Addr} {fd_rests : FuncData} (F_rests : FnG P w K mg base CX0 1 f_rests fd_rests ["brick", "box"] (liftSp K sp_rests)) (g_rests : mg "rests" = some (.ref f_rests)) (k_rests : PySem.W.keepIn K (.ref f_rests) = true) (b_rests : Binds K fd_rests ["brick", "box"] []) {f_with_side : Addr} {fd_with_side : FuncData} (F_with_side : FnG P w K mg base CX0 1 f_with_side fd_with_side ["sides", "axis", "side"] (liftSp K sp_Lwith)) (g_with_side : mg "with_side" = some (.ref f_with_side)) (k_with_side : PySem.W.keepIn K (.ref f_with_side) = true) (b_with_side : Binds K fd_with_side ["sides", "axis", "side"] []) : FnG P w K mg base CX0 2 f fd ["brick", "box", "axis", "side"] (liftSp K sp_is_part) := by
  have nd := sc_is_part.nd
  replace F_rests := F_rests.mono (show 1 ≤ 1 by decide)
  replace F_with_side := F_with_side.mono (show 1 ≤ 1 by decide)
  refine okD (wb := w_is_part) F sc_is_part ln_is_part (fun cdv A outer s H E hr => ?_) rd_is_part
  exact (jss_one (js_ret (je_or (je_cmp (d_eq hr.u64) (jv 3) je_int) (je_one (je_cmp (d_eq hr.u64) (je_call (m := []) F_rests hr rfl g_rests k_rests b_rests (ja_cons (jv 0) (ja_cons (je_call (m := []) F_with_side hr rfl g_with_side k_with_side b_with_side (ja_cons (jv 1) (ja_cons (jv 2) (ja_cons (jv 3) ja_nil)))) ja_nil))) (je_ofL (jl_lst ja_nil)))))))
set_option maxHeartbeats 0 in
theorem ok_is_cut {P : Program} {w : World} {K : PySem.W.Frag} {mg : Str → Option Value} {base : Heap} {f : Addr} {fd : FuncData} (F : Fun K "is_cut" "is_cut" s_is_cut f fd) {f_is_part : Addr} {fd_is_part : FuncData} (F_is_part : FnG P w K mg base CX0 2 f_is_part fd_is_part ["brick", "box", "axis", "side"] (liftSp K sp_is_part)) (g_is_part : mg "is_part" = some (.ref f_is_part)) (k_is_part : PySem.W.keepIn K (.ref f_is_part) = true) (b_is_part : Binds K fd_is_part ["brick", "box", "axis", "side"] []) : FnG P w K mg base CX0 3 f fd ["pair", "box", "first", "axis", "at"] (liftSp K sp_is_cut) := by
  have nd := sc_is_cut.nd
  replace F_is_part := F_is_part.mono (show 2 ≤ 2 by decide)
  refine okD (wb := w_is_cut) F sc_is_cut ln_is_cut (fun cdv A outer s H E hr => ?_) rd_is_cut
  exact (jss_one (js_ret (je_and (je_call (m := []) F_is_part hr rfl g_is_part k_is_part b_is_part (ja_cons (je_ix d_ix (jv 0) (jv 2) (fun _ _ => rfl)) (ja_cons (jv 1) (ja_cons (jv 3) (ja_cons (jv 4) ja_nil))))) (je_one (je_call (m := []) F_is_part hr rfl g_is_part k_is_part b_is_part (ja_cons (je_ix d_ix (jv 0) (je_op d_subB je_int (jv 2)) (fun _ _ => rfl)) (ja_cons (jv 1) (ja_cons (jv 3) (ja_cons (je_op d_subB (je_ix d_ix (jv 1) (jv 3) (fun _ _ => rfl)) (jv 4)) ja_nil)))))))))
set_option maxHeartbeats 0 in
theorem ok_bar_along {P : Program} {w : World} {K : PySem.W.Frag} {mg : Str → Option Value} {base : Heap} {f : Addr} {fd : FuncData} (F : Fun K "bar_along" "bar_along" s_bar_along f fd) {t_GAP : Tok} (c_GAP : mg "GAP" = some (.str "gap" t_GAP)) {t_STEP : Tok} (c_STEP : mg "STEP" = some (.str "step" t_STEP)) {f_least_times : Addr} {fd_least_times : FuncData} (F_least_times : FnG P w K mg base CX0 2 f_least_times fd_least_times ["one", "other", "side"] (liftSp K sp_least_times)) (g_least_times : mg "least_times" = some (.ref f_least_times)) (k_least_times : PySem.W.keepIn K (.ref f_least_times) = true) (b_least_times : Binds K fd_least_times ["one", "other", "side"] []) : FnG P w K mg base CX0 3 f fd ["pair", "box", "axis"] (liftSp K sp_bar_along) := by
  have nd := sc_bar_along.nd
  replace F_least_times := F_least_times.mono (show 2 ≤ 2 by decide)
  refine okD (wb := w_bar_along) F sc_bar_along ln_bar_along (fun cdv A outer s H E hr => ?_) rd_bar_along
  exact (jss_cons (jpar3 (i := 3) (j := 4) (l := 5) rfl nd rfl rfl rfl (by decide) (by decide) (by decide) (jms_cons (jm_e (je_ix d_ix (je_ix d_ix (jv 0) je_int (fun _ _ => rfl)) (jv 2) (fun _ _ => rfl))) (jms_cons (jm_e (je_ix d_ix (je_ix d_ix (jv 0) je_int (fun _ _ => rfl)) (jv 2) (fun _ _ => rfl))) (jms_cons (jm_e (je_ix d_ix (jv 1) (jv 2) (fun _ _ => rfl))) jms_nil))))
    (jss_cons (jset 6 nd (jm_e (je_call (m := []) F_least_times hr rfl g_least_times k_least_times b_least_times (ja_cons (jv 3) (ja_cons (jv 4) (ja_cons (jv 5) ja_nil))))))
    (jss_cons (js_if (jt_cmp d_is (jv 6) je_non) (jss_one (js_ret (je_tup (ja_cons (je_glob (v := .str "step") rfl c_STEP ⟨_, rfl⟩ (fun _ _ => .str _)) (ja_cons (jv 2) ja_nil))))) jss_nil)
    (jss_cons (jset 7 nd (jm_e (je_op d_subB (je_op d_mulT (jv 3) (jv 6)) (jv 5))))
    (jss_one (js_ret (je_ifE (jt_cmp d_gt (jv 7) je_int) (je_tup (ja_cons (je_glob (v := .str "gap") rfl c_GAP ⟨_, rfl⟩ (fun _ _ => .str _)) (ja_cons (jv 2) (ja_cons (jv 6) (ja_cons (je_op d_div (jv 7) (jv 4)) ja_nil))))) je_non)))))))
set_option maxHeartbeats 0 in
theorem ok_crossing {P : Program} {w : World} {K : PySem.W.Frag} {mg : Str → Option Value} {base : Heap} {f : Addr} {fd : FuncData} (F : Fun K "crossing" "crossing" s_crossing f fd) {t_SIDES : Tok} (c_SIDES : mg "SIDES" = some (.str "sides" t_SIDES)) {f_rests : Addr} {fd_rests : FuncData} (F_rests : FnG P w K mg base CX0 1 f_rests fd_rests ["brick", "box"] (liftSp K sp_rests)) (g_rests : mg "rests" = some (.ref f_rests)) (k_rests : PySem.W.keepIn K (.ref f_rests) = true) (b_rests : Binds K fd_rests ["brick", "box"] []) : FnG P w K mg base CX0 2 f fd ["pair", "box"] (liftM K sp_crossingM) := by
  have nd := sc_crossing.nd
  replace F_rests := F_rests.mono (show 1 ≤ 1 by decide)
  refine okM (i := 2) (wb := w_crossingM) F sc_crossing ln_crossingM (fun cdv A outer s H E hr => ?_) rd_crossingM
  exact (jsm_cons (jset 2 nd (jm_l (jl_lst ja_nil)))
    (jsm_cons (js_for PassesOwn.never rfl (ji_seq (je_call (m := []) F_rests hr rfl g_rests k_rests b_rests (ja_cons (je_ix d_ix (jv 0) je_int (fun _ _ => rfl)) (ja_cons (jv 1) ja_nil)))) (jgn 3 nd) (jss_one (js_extend (jpv 2) (je_ofL (jl_comp (own := [("j", 4)]) rfl nd (ji_seq (je_call (m := []) F_rests hr rfl g_rests k_rests b_rests (ja_cons (je_ix d_ix (jv 0) je_int (fun _ _ => rfl)) (ja_cons (jv 1) ja_nil)))) (blkOk_by (by kernel_rfl)) (by decide) (fun _ _ _ _ _ => (jgn 4 nd)) (fun _ _ _ _ _ => (jts_one (jt_cmp (d_ne hr.u64) (jv 3) (jv 4)))) (fun _ _ _ _ _ => (je_tup (ja_cons (je_glob (v := .str "sides") rfl c_SIDES ⟨_, rfl⟩ (fun _ _ => .str _)) (ja_cons (jv 3) (ja_cons (jv 4) ja_nil))))))) rfl rfl (pe_bm PySem.F.plainAttrs_list PySem.F.slot_list_extend PySem.F.type_list_extend mt_extend (jpv 2) (pa_cons (je_ofL (jl_comp (own := [("j", 4)]) rfl nd (ji_seq (je_call (m := []) F_rests hr rfl g_rests k_rests b_rests (ja_cons (je_ix d_ix (jv 0) je_int (fun _ _ => rfl)) (ja_cons (jv 1) ja_nil)))) (blkOk_by (by kernel_rfl)) (by decide) (fun _ _ _ _ _ => (jgn 4 nd)) (fun _ _ _ _ _ => (jts_one (jt_cmp (d_ne hr.u64) (jv 3) (jv 4)))) (fun _ _ _ _ _ => (je_tup (ja_cons (je_glob (v := .str "sides") rfl c_SIDES ⟨_, rfl⟩ (fun _ _ => .str _)) (ja_cons (jv 3) (ja_cons (jv 4) ja_nil))))))) pa_nil)))))
    (jsm_ret (jpv 2))))
set_option maxHeartbeats 0 in
theorem ok_bar_papers {P : Program} {w : World} {K : PySem.W.Frag} {mg : Str → Option Value} {base : Heap} {f : Addr} {fd : FuncData} (F : Fun K "bar_papers" "bar_papers" s_bar_papers f fd) (z_sorted : mg "sorted" = none) (z_tuple : mg "tuple" = none) (z_len : mg "len" = none) (z_range : mg "range" = none) {f_bar_along : Addr} {fd_bar_along : FuncData} (F_bar_along : FnG P w K mg base CX0 3 f_bar_along fd_bar_along ["pair", "box", "axis"] (liftSp K sp_bar_along)) (g_bar_along : mg "bar_along" = some (.ref f_bar_along)) (k_bar_along : PySem.W.keepIn K (.ref f_bar_along) = true) (b_bar_along : Binds K fd_bar_along ["pair", "box", "axis"] []) {f_crossing : Addr} {fd_crossing : FuncData} (F_crossing : FnG P w K mg base CX0 2 f_crossing fd_crossing ["pair", "box"] (liftM K sp_crossingM)) (g_crossing : mg "crossing" = some (.ref f_crossing)) (k_crossing : PySem.W.keepIn K (.ref f_crossing) = true) (b_crossing : Binds K fd_crossing ["pair", "box"] []) : FnG P w K mg base CX0 4 f fd ["pair", "box"] (liftSp K sp_bar_papers) := by
  have nd := sc_bar_papers.nd
  replace F_bar_along := F_bar_along.mono (show 3 ≤ 3 by decide)
  replace F_crossing := F_crossing.mono (show 2 ≤ 3 by decide)
  refine okD (wb := w_bar_papers) F sc_bar_papers ln_bar_papers (fun cdv A outer s H E hr => ?_) rd_bar_papers
  exact (jss_cons (jset 2 nd (jm_call (m := []) F_crossing hr rfl g_crossing k_crossing b_crossing (ja_cons (jv 0) (ja_cons (jv 1) ja_nil))))
    (jss_cons (js_for PassesOwn.never rfl (ji_range1 rfl z_range (ja_cons (je_fn c_len rfl z_len boot_len (ja_cons (jv 1) ja_nil)) ja_nil)) (jgn 3 nd) (jss_cons (jset 4 nd (jm_e (je_call (m := []) F_bar_along hr rfl g_bar_along k_bar_along b_bar_along (ja_cons (jv 0) (ja_cons (jv 1) (ja_cons (jv 3) ja_nil))))))
    (jss_one (js_if (jt_cmp d_isnot (jv 4) je_non) (jss_one (js_append (jpv 2) (jv 4) rfl rfl (pe_bm PySem.F.plainAttrs_list PySem.F.slot_list_append PySem.F.type_list_append mt_append (jpv 2) (pa_cons (jv 4) pa_nil)))) jss_nil))))
    (jss_one (js_ret (je_ty c_tup rfl z_tuple boot_tuple (ja_cons (je_fn (c_sorted hr.u64) rfl z_sorted boot_sorted (ja_cons (jv 2) ja_nil)) ja_nil))))))
set_option maxHeartbeats 0 in
theorem ok_paper_holds {P : Program} {w : World} {K : PySem.W.Frag} {mg : Str → Option Value} {base : Heap} {f : Addr} {fd : FuncData} (F : Fun K "paper_holds" "paper_holds" s_paper_holds f fd) (z_len : mg "len" = none) (z_isinstance : mg "isinstance" = none) (z_bool : mg "bool" = none) (z_any : mg "any" = none) (z_str : mg "str" = none) (z_tuple : mg "tuple" = none) {t_CUT : Tok} (c_CUT : mg "CUT" = some (.str "cut" t_CUT)) {f_is_cut : Addr} {fd_is_cut : FuncData} (F_is_cut : FnG P w K mg base CX0 3 f_is_cut fd_is_cut ["pair", "box", "first", "axis", "at"] (liftSp K sp_is_cut)) (g_is_cut : mg "is_cut" = some (.ref f_is_cut)) (k_is_cut : PySem.W.keepIn K (.ref f_is_cut) = true) (b_is_cut : Binds K fd_is_cut ["pair", "box", "first", "axis", "at"] []) {f_is_integer : Addr} {fd_is_integer : FuncData} (F_is_integer : FnG P w K mg base CX0 1 f_is_integer fd_is_integer ["value", "low", "high"] (liftSp K sp_is_integer)) (g_is_integer : mg "is_integer" = some (.ref f_is_integer)) (k_is_integer : PySem.W.keepIn K (.ref f_is_integer) = true) (b_is_integer : Binds K fd_is_integer ["value", "low", "high"] []) {f_bar_papers : Addr} {fd_bar_papers : FuncData} (F_bar_papers : FnG P w K mg base CX0 4 f_bar_papers fd_bar_papers ["pair", "box"] (liftSp K sp_bar_papers)) (g_bar_papers : mg "bar_papers" = some (.ref f_bar_papers)) (k_bar_papers : PySem.W.keepIn K (.ref f_bar_papers) = true) (b_bar_papers : Binds K fd_bar_papers ["pair", "box"] []) : FnG P w K mg base CX0 5 f fd ["pair", "box", "value"] (liftSp K sp_paper_holds) := by
  have nd := sc_paper_holds.nd
  replace F_is_cut := F_is_cut.mono (show 3 ≤ 4 by decide)
  replace F_is_integer := F_is_integer.mono (show 1 ≤ 4 by decide)
  replace F_bar_papers := F_bar_papers.mono (show 4 ≤ 4 by decide)
  refine okD (wb := w_paper_holds) F sc_paper_holds ln_paper_holds (fun cdv A outer s H E hr => ?_) rd_paper_holds
  exact (jss_cons (js_if (jt_w (jw_or (jt_not (jt_val (je_isi (T := "tuple") (by simp) rfl z_isinstance boot_isinstance rfl z_tuple boot_tuple (jv 2)))) (jw_or (jt_cmp d_lt (je_fn c_len rfl z_len boot_len (ja_cons (jv 2) ja_nil)) je_int) (jw_or1 (jt_not (jt_val (je_isi (T := "str") (by simp) rfl z_isinstance boot_isinstance rfl z_str boot_str (je_ix d_ix (jv 2) je_int (fun _ _ => rfl))))))))) (jss_one (js_ret je_bl)) jss_nil)
    (jss_cons (js_if (jt_cmp (d_ne hr.u64) (je_ix d_ix (jv 2) je_int (fun _ _ => rfl)) (je_glob (v := .str "cut") rfl c_CUT ⟨_, rfl⟩ (fun _ _ => .str _))) (jss_one (js_ret (je_and (je_cmp (d_inX hr.u65) (jv 2) (je_call (m := []) F_bar_papers hr rfl g_bar_papers k_bar_papers b_bar_papers (ja_cons (jv 0) (ja_cons (jv 1) ja_nil)))) (je_one (je_not (je_fn (c_any rfl) rfl z_any boot_any (ja_cons (je_ofL (jl_comp (own := [("item", 3)]) rfl nd (ji_seq (jv 2)) (blkOk_by (by kernel_rfl)) (by decide) (fun _ _ _ _ _ => (jgn 3 nd)) (fun _ _ _ _ _ => jts_nil) (fun _ _ _ _ _ => (je_isi (T := "bool") (by simp) rfl z_isinstance boot_isinstance rfl z_bool boot_bool (jv 3))))) ja_nil))))))) jss_nil)
    (jss_cons (js_if (jt_w (jw_or (jt_cmp (d_ne hr.u64) (je_fn c_len rfl z_len boot_len (ja_cons (jv 2) ja_nil)) je_int) (jw_or (jt_not (jt_val (je_call (m := []) F_is_integer hr rfl g_is_integer k_is_integer b_is_integer (ja_cons (je_ix d_ix (jv 2) je_int (fun _ _ => rfl)) (ja_cons je_int (ja_cons je_int ja_nil)))))) (jw_or1 (jt_not (jt_val (je_call (m := []) F_is_integer hr rfl g_is_integer k_is_integer b_is_integer (ja_cons (je_ix d_ix (jv 2) je_int (fun _ _ => rfl)) (ja_cons je_int (ja_cons (je_op d_subB (je_fn c_len rfl z_len boot_len (ja_cons (jv 1) ja_nil)) je_int) ja_nil)))))))))) (jss_one (js_ret je_bl)) jss_nil)
    (jss_one (js_ret (je_and (je_call (m := []) F_is_integer hr rfl g_is_integer k_is_integer b_is_integer (ja_cons (je_ix d_ix (jv 2) je_int (fun _ _ => rfl)) (ja_cons je_int (ja_cons (je_ix d_ix (jv 1) (je_ix d_ix (jv 2) je_int (fun _ _ => rfl)) (fun _ _ => rfl)) ja_nil)))) (je_one (je_call (m := []) F_is_cut hr rfl g_is_cut k_is_cut b_is_cut (ja_cons (jv 0) (ja_cons (jv 1) (ja_cons (je_ix d_ix (jv 2) je_int (fun _ _ => rfl)) (ja_cons (je_ix d_ix (jv 2) je_int (fun _ _ => rfl)) (ja_cons (je_ix d_ix (jv 2) je_int (fun _ _ => rfl)) ja_nil)))))))))))))
set_option maxHeartbeats 0 in
theorem ok_Cuts_rank {P : Program} {w : World} {K : PySem.W.Frag} {mg : Str → Option Value} {base : Heap} {f : Addr} {fd : FuncData} (F : Fun K "rank" "Cuts.rank" s_Cuts_rank f fd) {C_Cuts : Addr} (ob_Cuts : ObjK K "Cuts" C_Cuts) (na_Cuts_at_begin : NoAttr K C_Cuts "at_begin") (na_Cuts_whole : NoAttr K C_Cuts "whole") (na_Cuts_amid : NoAttr K C_Cuts "amid") (na_Cuts_begin : NoAttr K C_Cuts "begin") (na_Cuts_step : NoAttr K C_Cuts "step") : FnG P w K mg base CX0 1 f fd ["self", "at"] (liftSp K sp_Cuts_rank) := by
  have nd := sc_Cuts_rank.nd
  refine okD (wb := w_Cuts_rank) F sc_Cuts_rank ln_Cuts_rank (fun cdv A outer s H E hr => ?_) rd_Cuts_rank
  exact (jss_cons (js_if (jt_cmp (d_eq hr.u64) (jv 1) je_int) (jss_one (js_ret je_int)) jss_nil)
    (jss_one (js_ret (je_op d_addB (je_fld ob_Cuts.at_ na_Cuts_at_begin (jv 0)) (je_ifE (jt_cmp (d_eq hr.u64) (jv 1) (je_fld ob_Cuts.at_ na_Cuts_whole (jv 0))) (je_fld ob_Cuts.at_ na_Cuts_amid (jv 0)) (je_op d_div (je_op d_subB (jv 1) (je_fld ob_Cuts.at_ na_Cuts_begin (jv 0))) (je_fld ob_Cuts.at_ na_Cuts_step (jv 0))))))))
set_option maxHeartbeats 0 in
theorem ok_cut_number {P : Program} {w : World} {K : PySem.W.Frag} {mg : Str → Option Value} {base : Heap} {f : Addr} {fd : FuncData} (F : Fun K "cut_number" "cut_number" s_cut_number f fd) {C_Cuts : Addr} (ob_Cuts : ObjK K "Cuts" C_Cuts) (z_len : mg "len" = none) (z_isinstance : mg "isinstance" = none) (z_tuple : mg "tuple" = none) {t_CUT : Tok} (c_CUT : mg "CUT" = some (.str "cut" t_CUT)) {f_all_cuts : Addr} {fd_all_cuts : FuncData} (F_all_cuts : FnG P w K mg base CX0 5 f_all_cuts fd_all_cuts ["pair", "box"] (liftSp K sp_all_cuts)) (g_all_cuts : mg "all_cuts" = some (.ref f_all_cuts)) (k_all_cuts : PySem.W.keepIn K (.ref f_all_cuts) = true) (b_all_cuts : Binds K fd_all_cuts ["pair", "box"] []) {f_Cuts_many : Addr} {fd_Cuts_many : FuncData} (F_Cuts_many : FnG P w K mg base CX0 1 f_Cuts_many fd_Cuts_many ["self"] (liftSp K sp_Cuts_many)) (mt_Cuts_many : Meth K C_Cuts "many" f_Cuts_many) (b_Cuts_many : Binds K fd_Cuts_many ["self"] []) {f_Cuts_rank : Addr} {fd_Cuts_rank : FuncData} (F_Cuts_rank : FnG P w K mg base CX0 1 f_Cuts_rank fd_Cuts_rank ["self", "at"] (liftSp K sp_Cuts_rank)) (mt_Cuts_rank : Meth K C_Cuts "rank" f_Cuts_rank) (b_Cuts_rank : Binds K fd_Cuts_rank ["self", "at"] []) {f_paper_holds : Addr} {fd_paper_holds : FuncData} (F_paper_holds : FnG P w K mg base CX0 5 f_paper_holds fd_paper_holds ["pair", "box", "value"] (liftSp K sp_paper_holds)) (g_paper_holds : mg "paper_holds" = some (.ref f_paper_holds)) (k_paper_holds : PySem.W.keepIn K (.ref f_paper_holds) = true) (b_paper_holds : Binds K fd_paper_holds ["pair", "box", "value"] []) : FnG P w K mg base CX0 6 f fd ["pair", "box", "value"] (liftSp K sp_cut_number) := by
  have nd := sc_cut_number.nd
  replace F_all_cuts := F_all_cuts.mono (show 5 ≤ 5 by decide)
  replace F_Cuts_many := F_Cuts_many.mono (show 1 ≤ 5 by decide)
  replace F_Cuts_rank := F_Cuts_rank.mono (show 1 ≤ 5 by decide)
  replace F_paper_holds := F_paper_holds.mono (show 5 ≤ 5 by decide)
  refine okD (wb := w_cut_number) F sc_cut_number ln_cut_number (fun cdv A outer s H E hr => ?_) rd_cut_number
  exact (jss_cons (js_if (jt_w (jw_or (jt_not (jt_val (je_isi (T := "tuple") (by simp) rfl z_isinstance boot_isinstance rfl z_tuple boot_tuple (jv 2)))) (jw_or (jt_cmp (d_ne hr.u64) (je_fn c_len rfl z_len boot_len (ja_cons (jv 2) ja_nil)) je_int) (jw_or1 (jt_not (jt_val (je_call (m := []) F_paper_holds hr rfl g_paper_holds k_paper_holds b_paper_holds (ja_cons (jv 0) (ja_cons (jv 1) (ja_cons (je_op d_addB (je_tup (ja_cons (je_glob (v := .str "cut") rfl c_CUT ⟨_, rfl⟩ (fun _ _ => .str _)) ja_nil)) (jv 2)) ja_nil)))))))))) (jss_one (js_ret je_non)) jss_nil)
    (jss_cons (jset 3 nd (jm_e je_int))
    (jss_cons (js_for PassesOwn.never rfl (ji_seq (je_call (m := []) F_all_cuts hr rfl g_all_cuts k_all_cuts b_all_cuts (ja_cons (jv 0) (ja_cons (jv 1) ja_nil)))) (jg_tup rfl (jgs_cons (jgn 4 nd) (jgs_cons (jgn 5 nd) (jgs_cons (jgn 6 nd) jgs_nil))) (gs_lenN (gs_lenN (gs_lenN gs_len0)))) (jss_cons (js_if (jt_cmp (d_eq hr.u64) (je_tup (ja_cons (jv 4) (ja_cons (jv 5) ja_nil))) (je_sl d_sl (jv 2) jo_none (jo_some je_int))) (jss_one (js_ret (je_op d_addB (jv 3) (je_meth ob_Cuts.at_ ob_Cuts.cl mt_Cuts_rank F_Cuts_rank hr b_Cuts_rank (jv 6) (ja_cons (je_ix d_ix (jv 2) je_int (fun _ _ => rfl)) ja_nil))))) jss_nil)
    (jss_one (jaug 3 nd (je_meth0 ob_Cuts.at_ ob_Cuts.cl mt_Cuts_many F_Cuts_many hr b_Cuts_many (jv 6)) d_iadd))))
    (jss_one (js_ret je_non)))))
set_option maxHeartbeats 0 in
theorem ok_Ldeck {P : Program} {w : World} {K : PySem.W.Frag} {mg : Str → Option Value} {base : Heap} {f : Addr} {fd : FuncData} (F : Fun K "_law_deck" "_law_deck" s_Ldeck f fd) (z_abs : mg "abs" = none) (z_len : mg "len" = none) : FnG P w K mg base CX0 1 f fd ["_law_script"] (liftM K spDeck) := by
  have nd := sc_Ldeck.nd
  refine ok_deck F sc_Ldeck rfl rfl rfl (fun cdv A outer s H E hr => ?_) (fun cdv A outer s H E hr => ?_)
  · exact (js_setCL (i := 1) (own := [("_law_cell", 2)]) rfl nd rfl rfl (sw_true rfl rfl rfl (by decide +kernel)) (ji_seq (je_cut (jpv 0))) (blkOk_by (by kernel_rfl)) (by decide) (fun _ _ _ _ _ => (jgn 2 nd)) (fun _ _ _ _ _ => jts_nil) (fun _ _ _ _ _ => je_fn c_abs rfl z_abs boot_abs (ja_cons (jv 2) ja_nil)))
  · exact (jms_cons (jm_l (jl_comp (own := [("_law_cell", 2)]) rfl nd (ji_seq (jv 1)) (blkOk_by (by kernel_rfl)) (by decide) (fun _ _ _ _ _ => (jgn 2 nd)) (fun _ _ _ _ _ => jts_one (jt_cmp d_ge (jv 2) (je_op d_pow je_int je_int))) (fun _ _ _ _ _ => (jv 2))))
      (jms_cons (jm_l (jl_op d_addL (jv 1) (je_ofL (jl_lst (ja_cons (je_op d_add je_int (je_fn c_len rfl z_len boot_len (ja_cons (jv 1) ja_nil))) ja_nil))))) (jms_cons (jm_e je_int) jms_nil)))
set_option maxHeartbeats 0 in
theorem ok_Ldraw {P : Program} {w : World} {K : PySem.W.Frag} {mg : Str → Option Value} {base : Heap} {f : Addr} {fd : FuncData} (F : Fun K "_law_draw" "_law_draw" s_Ldraw f fd) (z_int : mg "int" = none) (z_len : mg "len" = none) : FnG P w K mg base CX0 1 f fd ["_law_deck_here", "_law_many"] (liftSp K spDraw) := by
  have nd := sc_Ldraw.nd
  refine ok_draw F sc_Ldraw rfl rfl fun cdv A outer s H E hr => ?_
  exact (jss_cons (js_if (jt_kne hr.u64 (jpv 0)) (jss_cons (jset 2 nd (jm_e (je_k00 (jpv 0)))) (jss_cons (js_put00 (jpv 0) (je_op d_div (jv 2) (jv 1)))
      (jss_cons (js_if (jt_cmp (d_eq hr.u64) (je_k00 (jpv 0)) je_int) (jss_one (js_pop0 (jpv 0) rfl (pe_bm PySem.F.plainAttrs_list PySem.F.slot_list_pop PySem.F.type_list_pop mt_popAt (pe_ix ix_list (jpv 0) pe_int (fun _ _ => rfl)) (pa_cons pe_int pa_nil)))) jss_nil)
      (jss_one (js_ret (je_op d_mod (je_ty c_int rfl z_int boot_int (ja_cons (jv 2) ja_nil)) (jv 1))))))) jss_nil)
    (jss_cons (js_put2 (jpv 0) (je_op d_add (je_k2 (jpv 0)) je_int))
    (jss_cons (jset 3 nd (jm_e (je_k1 (jpv 0) (je_op d_mod (je_ty c_int rfl z_int boot_int (ja_cons (je_k2 (jpv 0)) ja_nil)) (je_klen rfl z_len boot_len (jpv 0))) (fun _ _ => rfl))))
    (jss_cons (jset 4 nd (jm_e (je_op d_mod (je_ty c_int rfl z_int boot_int (ja_cons (je_op d_add (je_op d_mod (je_ty c_int rfl z_int boot_int (ja_cons (jv 3) ja_nil)) je_int) (je_op d_mul je_int (je_k2 (jpv 0)))) ja_nil)) je_int)))
    (jss_cons (jset 4 nd (jm_e (je_op d_mod (je_ty c_int rfl z_int boot_int (ja_cons (je_op d_add (je_op d_mul (jv 4) (jv 4)) (je_op d_mul je_int (je_k2 (jpv 0)))) ja_nil)) je_int)))
    (jss_one (js_ret (je_op d_mod (je_op d_div (je_op d_mod (je_ty c_int rfl z_int boot_int (ja_cons (je_op d_mul (jv 4) (jv 4)) ja_nil)) je_int) je_int) (jv 1)))))))))
set_option maxHeartbeats 0 in
theorem ok_Lwhole {P : Program} {w : World} {K : PySem.W.Frag} {mg : Str → Option Value} {base : Heap} {f : Addr} {fd : FuncData} (F : Fun K "_law_whole" "_law_whole" s_Lwhole f fd) (z_isinstance : mg "isinstance" = none) (z_bool : mg "bool" = none) (z_int : mg "int" = none) : FnG P w K mg base CX0 1 f fd ["_law_value", "_law_least_here", "_law_most"] (liftSp K sp_is_integer) := by
  have nd := sc_Lwhole.nd
  refine okD (wb := w_is_integer) F sc_Lwhole ln_is_integer (fun cdv A outer s H E hr => ?_) rd_is_integer
  exact (jss_one (js_ret (je_and (je_isi (T := "int") (by simp) rfl z_isinstance boot_isinstance rfl z_int boot_int (jv 0)) (je_and (je_not (je_isi (T := "bool") (by simp) rfl z_isinstance boot_isinstance rfl z_bool boot_bool (jv 0))) (je_one (je_chain d_le d_le (jv 1) (jv 0) (jv 2)))))))
set_option maxHeartbeats 0 in
theorem ok_Ldivisor {P : Program} {w : World} {K : PySem.W.Frag} {mg : Str → Option Value} {base : Heap} {f : Addr} {fd : FuncData} (F : Fun K "_law_divisor" "_law_divisor" s_Ldivisor f fd)  : FnG P w K mg base CX0 1 f fd ["_law_one_here", "_law_other"] (liftSp K sp_common) := by
  have nd := sc_Ldivisor.nd
  refine okD (wb := w_common) F sc_Ldivisor ln_common (fun cdv A outer s H E hr => ?_) rd_common
  exact (jss_cons (js_while PassesOwn.never (jt_cmp d_gt (jv 1) je_int) (jss_one (jpar (i := 0) (j := 1) rfl nd rfl rfl (by decide) (jms_cons (jm_e (jv 1)) (jms_cons (jm_e (je_op d_mod (jv 0) (jv 1))) jms_nil)))))
    (jss_one (js_ret (jv 0))))
set_option maxHeartbeats 0 in
theorem ok_Llcm {P : Program} {w : World} {K : PySem.W.Frag} {mg : Str → Option Value} {base : Heap} {f : Addr} {fd : FuncData} (F : Fun K "_law_lcm" "_law_lcm" s_Llcm f fd) {f_Ldivisor : Addr} {fd_Ldivisor : FuncData} (F_Ldivisor : FnG P w K mg base CX0 1 f_Ldivisor fd_Ldivisor ["_law_one_here", "_law_other"] (liftSp K sp_common)) (g_Ldivisor : mg "_law_divisor" = some (.ref f_Ldivisor)) (k_Ldivisor : PySem.W.keepIn K (.ref f_Ldivisor) = true) (b_Ldivisor : Binds K fd_Ldivisor ["_law_one_here", "_law_other"] []) : FnG P w K mg base CX0 2 f fd ["_law_one_here", "_law_other"] (liftSp K sp_Llcm) := by
  have nd := sc_Llcm.nd
  replace F_Ldivisor := F_Ldivisor.mono (show 1 ≤ 1 by decide)
  refine okD (wb := w_Llcm) F sc_Llcm ln_Llcm (fun cdv A outer s H E hr => ?_) rd_Llcm
  exact (jss_one (js_ret (je_op d_div (je_op d_mulT (jv 0) (jv 1)) (je_call (m := []) F_Ldivisor hr rfl g_Ldivisor k_Ldivisor b_Ldivisor (ja_cons (jv 0) (ja_cons (jv 1) ja_nil))))))
set_option maxHeartbeats 0 in
theorem ok_Lrests {P : Program} {w : World} {K : PySem.W.Frag} {mg : Str → Option Value} {base : Heap} {f : Addr} {fd : FuncData} (F : Fun K "_law_rests" "_law_rests" s_Lrests f fd) (z_len : mg "len" = none) (z_range : mg "range" = none) (z_int : mg "int" = none) : FnG P w K mg base CX0 1 f fd ["_law_brick", "_law_box"] (liftSp K sp_Lrests) := by
  have nd := sc_Lrests.nd
  refine okD (wb := w_Lrests) F sc_Lrests ln_Lrests (fun cdv A outer s H E hr => ?_) rd_Lrests
  exact (jss_one (js_ret (je_ofL (jl_comp (own := [("_law_axis", 2)]) rfl nd (ji_range1 rfl z_range (ja_cons (je_fn c_len rfl z_len boot_len (ja_cons (jv 1) ja_nil)) ja_nil)) (blkOk_by (by kernel_rfl)) (by decide) (fun _ _ _ _ _ => (jgn 2 nd)) (fun _ _ _ _ _ => (jts_one (jt_cmp (d_ne hr.u64) (je_op d_mod (je_ty c_int rfl z_int boot_int (ja_cons (je_ix d_ix (jv 1) (jv 2) (fun _ _ => rfl)) ja_nil)) (je_ix d_ix (jv 0) (jv 2) (fun _ _ => rfl))) je_int))) (fun _ _ _ _ _ => (jv 2))))))
set_option maxHeartbeats 0 in
theorem ok_Lwith {P : Program} {w : World} {K : PySem.W.Frag} {mg : Str → Option Value} {base : Heap} {f : Addr} {fd : FuncData} (F : Fun K "_law_with" "_law_with" s_Lwith f fd)  : FnG P w K mg base CX0 1 f fd ["_law_sides", "_law_axis", "_law_side"] (liftSp K sp_Lwith) := by
  have nd := sc_Lwith.nd
  refine okD (wb := w_Lwith) F sc_Lwith ln_Lwith (fun cdv A outer s H E hr => ?_) rd_Lwith
  exact (jss_one (js_ret (je_op d_addB (je_op d_addB (je_sl d_sl (jv 0) jo_none (jo_some (jv 1))) (je_tup (ja_cons (jv 2) ja_nil))) (je_sl d_sl (jv 0) (jo_some (je_op d_addB (jv 1) je_int)) jo_none))))
set_option maxHeartbeats 0 in
theorem ok_Lis_part {P : Program} {w : World} {K : PySem.W.Frag} {mg : Str → Option Value} {base : Heap} {f : Addr} {fd : FuncData} (F : Fun K "_law_is_part" "_law_is_part" s_Lis_part f fd) {f_Lrests : Addr} {fd_Lrests : FuncData} (F_Lrests : FnG P w K mg base CX0 1 f_Lrests fd_Lrests ["_law_brick", "_law_box"] (liftSp K sp_Lrests)) (g_Lrests : mg "_law_rests" = some (.ref f_Lrests)) (k_Lrests : PySem.W.keepIn K (.ref f_Lrests) = true) (b_Lrests : Binds K fd_Lrests ["_law_brick", "_law_box"] []) {f_Lwith : Addr} {fd_Lwith : FuncData} (F_Lwith : FnG P w K mg base CX0 1 f_Lwith fd_Lwith ["_law_sides", "_law_axis", "_law_side"] (liftSp K sp_Lwith)) (g_Lwith : mg "_law_with" = some (.ref f_Lwith)) (k_Lwith : PySem.W.keepIn K (.ref f_Lwith) = true) (b_Lwith : Binds K fd_Lwith ["_law_sides", "_law_axis", "_law_side"] []) : FnG P w K mg base CX0 2 f fd ["_law_brick", "_law_box", "_law_axis", "_law_side"] (liftSp K sp_Lis_part) := by
  have nd := sc_Lis_part.nd
  replace F_Lrests := F_Lrests.mono (show 1 ≤ 1 by decide)
  replace F_Lwith := F_Lwith.mono (show 1 ≤ 1 by decide)
  refine okD (wb := w_Lis_part) F sc_Lis_part ln_Lis_part (fun cdv A outer s H E hr => ?_) rd_Lis_part
  exact (jss_one (js_ret (je_or (je_cmp (d_eq hr.u64) (jv 3) je_int) (je_one (je_cmp (d_eq hr.u64) (je_call (m := []) F_Lrests hr rfl g_Lrests k_Lrests b_Lrests (ja_cons (jv 0) (ja_cons (je_call (m := []) F_Lwith hr rfl g_Lwith k_Lwith b_Lwith (ja_cons (jv 1) (ja_cons (jv 2) (ja_cons (jv 3) ja_nil)))) ja_nil))) (je_ofL (jl_lst ja_nil)))))))
set_option maxHeartbeats 0 in
theorem ok_Lis_cut {P : Program} {w : World} {K : PySem.W.Frag} {mg : Str → Option Value} {base : Heap} {f : Addr} {fd : FuncData} (F : Fun K "_law_is_cut" "_law_is_cut" s_Lis_cut f fd) {f_Lis_part : Addr} {fd_Lis_part : FuncData} (F_Lis_part : FnG P w K mg base CX0 2 f_Lis_part fd_Lis_part ["_law_brick", "_law_box", "_law_axis", "_law_side"] (liftSp K sp_Lis_part)) (g_Lis_part : mg "_law_is_part" = some (.ref f_Lis_part)) (k_Lis_part : PySem.W.keepIn K (.ref f_Lis_part) = true) (b_Lis_part : Binds K fd_Lis_part ["_law_brick", "_law_box", "_law_axis", "_law_side"] []) : FnG P w K mg base CX0 3 f fd ["_law_pair", "_law_box", "_law_value"] (liftSp K sp_Lis_cut) := by
  have nd := sc_Lis_cut.nd
  replace F_Lis_part := F_Lis_part.mono (show 2 ≤ 2 by decide)
  refine okD (wb := w_Lis_cut) F sc_Lis_cut ln_Lis_cut (fun cdv A outer s H E hr => ?_) rd_Lis_cut
  exact (jss_cons (js_asgG (jv 2) (jg_tup rfl (jgs_cons (jgn 3 nd) (jgs_cons (jgn 4 nd) (jgs_cons (jgn 5 nd) jgs_nil))) (gs_lenN (gs_lenN (gs_lenN gs_len0)))))
    (jss_cons (js_if (jt_not (jt_val (je_call (m := []) F_Lis_part hr rfl g_Lis_part k_Lis_part b_Lis_part (ja_cons (je_ix d_ix (jv 0) (jv 3) (fun _ _ => rfl)) (ja_cons (jv 1) (ja_cons (jv 4) (ja_cons (jv 5) ja_nil))))))) (jss_one (js_ret je_bl)) jss_nil)
    (jss_one (js_ret (je_call (m := []) F_Lis_part hr rfl g_Lis_part k_Lis_part b_Lis_part (ja_cons (je_ix d_ix (jv 0) (je_op d_subB je_int (jv 3)) (fun _ _ => rfl)) (ja_cons (jv 1) (ja_cons (jv 4) (ja_cons (je_op d_subB (je_ix d_ix (jv 1) (jv 4) (fun _ _ => rfl)) (jv 5)) ja_nil)))))))))
set_option maxHeartbeats 0 in
theorem ok_Lone {P : Program} {w : World} {K : PySem.W.Frag} {mg : Str → Option Value} {base : Heap} {f : Addr} {fd : FuncData} (F : Fun K "_law_one" "_law_one" s_Lone f fd) (z_len : mg "len" = none) {f_Ldraw : Addr} {fd_Ldraw : FuncData} (F_Ldraw : FnG P w K mg base CX0 1 f_Ldraw fd_Ldraw ["_law_deck_here", "_law_many"] (liftSp K sp_Ldraw)) (g_Ldraw : mg "_law_draw" = some (.ref f_Ldraw)) (k_Ldraw : PySem.W.keepIn K (.ref f_Ldraw) = true) (b_Ldraw : Binds K fd_Ldraw ["_law_deck_here", "_law_many"] []) : FnG P w K mg base CX0 2 f fd ["_law_deck_here", "_law_items"] (liftSp K sp_Lone) := by
  have nd := sc_Lone.nd
  replace F_Ldraw := F_Ldraw.mono (show 1 ≤ 1 by decide)
  refine okD (wb := w_Lone) F sc_Lone ln_Lone (fun cdv A outer s H E hr => ?_) rd_Lone
  exact (jss_one (js_ret (je_ix d_ix (jv 1) (je_call (m := [true, false]) F_Ldraw hr rfl g_Ldraw k_Ldraw b_Ldraw (ja_cons (jv 0) (ja_cons (je_fn c_len rfl z_len boot_len (ja_cons (jv 1) ja_nil)) ja_nil))) (fun _ _ => rfl))))
set_option maxHeartbeats 0 in
theorem ok_Lscaled {P : Program} {w : World} {K : PySem.W.Frag} {mg : Str → Option Value} {base : Heap} {f : Addr} {fd : FuncData} (F : Fun K "_law_scaled" "_law_scaled" s_Lscaled f fd) (z_range : mg "range" = none) (z_tuple : mg "tuple" = none) {f_Lone : Addr} {fd_Lone : FuncData} (F_Lone : FnG P w K mg base CX0 2 f_Lone fd_Lone ["_law_deck_here", "_law_items"] (liftSp K sp_Lone)) (g_Lone : mg "_law_one" = some (.ref f_Lone)) (k_Lone : PySem.W.keepIn K (.ref f_Lone) = true) (b_Lone : Binds K fd_Lone ["_law_deck_here", "_law_items"] []) {f_Ldraw : Addr} {fd_Ldraw : FuncData} (F_Ldraw : FnG P w K mg base CX0 1 f_Ldraw fd_Ldraw ["_law_deck_here", "_law_many"] (liftSp K sp_Ldraw)) (g_Ldraw : mg "_law_draw" = some (.ref f_Ldraw)) (k_Ldraw : PySem.W.keepIn K (.ref f_Ldraw) = true) (b_Ldraw : Binds K fd_Ldraw ["_law_deck_here", "_law_many"] []) : FnG P w K mg base CX0 3 f fd ["_law_deck_here", "_law_axes"] (liftSp K sp_Lscaled) := by
  have nd := sc_Lscaled.nd
  replace F_Lone := F_Lone.mono (show 2 ≤ 2 by decide)
  replace F_Ldraw := F_Ldraw.mono (show 1 ≤ 2 by decide)
  refine okD (wb := w_Lscaled) F sc_Lscaled ln_Lscaled (fun cdv A outer s H E hr => ?_) rd_Lscaled
  exact (jss_one (js_ret (je_ty c_tup rfl z_tuple boot_tuple (ja_cons (je_ofL (jl_comp (own := [("_law_b", 3)]) rfl nd (ji_seq (je_tup (ja_cons je_int (ja_cons je_int ja_nil)))) (blkOk_by (by kernel_rfl)) (by decide) (fun _ _ _ _ _ => (jgn 3 nd)) (fun _ _ _ _ _ => jts_nil) (fun _ _ _ _ _ => (je_ty c_tup rfl z_tuple boot_tuple (ja_cons (je_ofL (jl_comp (own := [("_law_k", 2)]) rfl nd (ji_range1 rfl z_range (ja_cons (jv 1) ja_nil)) (blkOk_by (by kernel_rfl)) (by decide) (fun _ _ _ _ _ => (jgn 2 nd)) (fun _ _ _ _ _ => jts_nil) (fun _ _ _ _ _ => (je_call (m := [true, false]) F_Lone hr rfl g_Lone k_Lone b_Lone (ja_cons (jv 0) (ja_cons (je_ofL (jl_lst (ja_cons (je_op d_addB je_int (je_call (m := [true, false]) F_Ldraw hr rfl g_Ldraw k_Ldraw b_Ldraw (ja_cons (jv 0) (ja_cons je_int ja_nil)))) (ja_cons (je_op d_addB je_int (je_call (m := [true, false]) F_Ldraw hr rfl g_Ldraw k_Ldraw b_Ldraw (ja_cons (jv 0) (ja_cons je_int ja_nil)))) ja_nil)))) ja_nil)))))) ja_nil))))) ja_nil))))
set_option maxHeartbeats 0 in
theorem ok_Lgreat_filled {P : Program} {w : World} {K : PySem.W.Frag} {mg : Str → Option Value} {base : Heap} {f : Addr} {fd : FuncData} (F : Fun K "_law_great_filled" "_law_great_filled" s_Lgreat_filled f fd) (z_tuple : mg "tuple" = none) (z_len : mg "len" = none) (z_range : mg "range" = none) (z_list : mg "list" = none) {f_Ldraw : Addr} {fd_Ldraw : FuncData} (F_Ldraw : FnG P w K mg base CX0 1 f_Ldraw fd_Ldraw ["_law_deck_here", "_law_many"] (liftSp K sp_Ldraw)) (g_Ldraw : mg "_law_draw" = some (.ref f_Ldraw)) (k_Ldraw : PySem.W.keepIn K (.ref f_Ldraw) = true) (b_Ldraw : Binds K fd_Ldraw ["_law_deck_here", "_law_many"] []) {f_Llcm : Addr} {fd_Llcm : FuncData} (F_Llcm : FnG P w K mg base CX0 2 f_Llcm fd_Llcm ["_law_one_here", "_law_other"] (liftSp K sp_Llcm)) (g_Llcm : mg "_law_lcm" = some (.ref f_Llcm)) (k_Llcm : PySem.W.keepIn K (.ref f_Llcm) = true) (b_Llcm : Binds K fd_Llcm ["_law_one_here", "_law_other"] []) {f_Lone : Addr} {fd_Lone : FuncData} (F_Lone : FnG P w K mg base CX0 2 f_Lone fd_Lone ["_law_deck_here", "_law_items"] (liftSp K sp_Lone)) (g_Lone : mg "_law_one" = some (.ref f_Lone)) (k_Lone : PySem.W.keepIn K (.ref f_Lone) = true) (b_Lone : Binds K fd_Lone ["_law_deck_here", "_law_items"] []) : FnG P w K mg base CX0 3 f fd ["_law_deck_here", "_law_pair"] (liftSp K sp_Lgreat_filled) := by
  have nd := sc_Lgreat_filled.nd
  replace F_Ldraw := F_Ldraw.mono (show 1 ≤ 2 by decide)
  replace F_Llcm := F_Llcm.mono (show 2 ≤ 2 by decide)
  replace F_Lone := F_Lone.mono (show 2 ≤ 2 by decide)
  refine okD (wb := w_Lgreat_filled) F sc_Lgreat_filled ln_Lgreat_filled (fun cdv A outer s H E hr => ?_) rd_Lgreat_filled
  exact (jss_cons (js_if (jt_cmp (d_eq hr.u64) (je_call (m := [true, false]) F_Ldraw hr rfl g_Ldraw k_Ldraw b_Ldraw (ja_cons (jv 0) (ja_cons je_int ja_nil))) je_int) (jss_cons (jset 2 nd (jm_e (je_call (m := [true, false]) F_Lone hr rfl g_Lone k_Lone b_Lone (ja_cons (jv 0) (ja_cons (je_ofL (jl_ty c_lst rfl z_list boot_list (ja_cons (jv 1) ja_nil))) ja_nil)))))
    (jss_one (js_ret (je_ty c_tup rfl z_tuple boot_tuple (ja_cons (je_ofL (jl_comp (own := [("_law_side", 3)]) rfl nd (ji_seq (jv 2)) (blkOk_by (by kernel_rfl)) (by decide) (fun _ _ _ _ _ => (jgn 3 nd)) (fun _ _ _ _ _ => jts_nil) (fun _ _ _ _ _ => (je_op d_mulT (jv 3) (je_op d_addB je_int (je_call (m := [true, false]) F_Ldraw hr rfl g_Ldraw k_Ldraw b_Ldraw (ja_cons (jv 0) (ja_cons (je_op d_pow je_int je_int) ja_nil)))))))) ja_nil))))) jss_nil)
    (jss_cons (jpar (i := 4) (j := 5) rfl nd rfl rfl (by decide) (jms_cons (jm_e (je_call (m := [true, false]) F_Ldraw hr rfl g_Ldraw k_Ldraw b_Ldraw (ja_cons (jv 0) (ja_cons (je_fn c_len rfl z_len boot_len (ja_cons (je_ix d_ix (jv 1) je_int (fun _ _ => rfl)) ja_nil)) ja_nil)))) (jms_cons (jm_l (jl_lst ja_nil)) jms_nil)))
    (jss_cons (js_for PassesOwn.never rfl (ji_range1 rfl z_range (ja_cons (je_fn c_len rfl z_len boot_len (ja_cons (je_ix d_ix (jv 1) je_int (fun _ _ => rfl)) ja_nil)) ja_nil)) (jgn 6 nd) (jss_one (js_append (jpv 5) (je_op d_mulT (je_call (m := []) F_Llcm hr rfl g_Llcm k_Llcm b_Llcm (ja_cons (je_ix d_ix (je_ix d_ix (jv 1) je_int (fun _ _ => rfl)) (jv 6) (fun _ _ => rfl)) (ja_cons (je_ix d_ix (je_ix d_ix (jv 1) je_int (fun _ _ => rfl)) (jv 6) (fun _ _ => rfl)) ja_nil))) (je_op d_addB je_int (je_call (m := [true, false]) F_Ldraw hr rfl g_Ldraw k_Ldraw b_Ldraw (ja_cons (jv 0) (ja_cons je_int ja_nil))))) rfl rfl (pe_bm PySem.F.plainAttrs_list PySem.F.slot_list_append PySem.F.type_list_append mt_append (jpv 5) (pa_cons (je_op d_mulT (je_call (m := []) F_Llcm hr rfl g_Llcm k_Llcm b_Llcm (ja_cons (je_ix d_ix (je_ix d_ix (jv 1) je_int (fun _ _ => rfl)) (jv 6) (fun _ _ => rfl)) (ja_cons (je_ix d_ix (je_ix d_ix (jv 1) je_int (fun _ _ => rfl)) (jv 6) (fun _ _ => rfl)) ja_nil))) (je_op d_addB je_int (je_call (m := [true, false]) F_Ldraw hr rfl g_Ldraw k_Ldraw b_Ldraw (ja_cons (jv 0) (ja_cons je_int ja_nil))))) pa_nil)))))
    (jss_cons (js_put (jv 4) (je_op d_addB (je_op d_mulT (je_ix d_ix (je_ix d_ix (jv 1) je_int (fun _ _ => rfl)) (jv 4) (fun _ _ => rfl)) (je_call (m := [true, false]) F_Ldraw hr rfl g_Ldraw k_Ldraw b_Ldraw (ja_cons (jv 0) (ja_cons (je_op d_pow je_int je_int) ja_nil)))) (je_op d_mulT (je_ix d_ix (je_ix d_ix (jv 1) je_int (fun _ _ => rfl)) (jv 4) (fun _ _ => rfl)) (je_op d_addB je_int (je_call (m := [true, false]) F_Ldraw hr rfl g_Ldraw k_Ldraw b_Ldraw (ja_cons (jv 0) (ja_cons (je_op d_pow je_int je_int) ja_nil)))))) (ps_asg (je_op d_addB (je_op d_mulT (je_ix d_ix (je_ix d_ix (jv 1) je_int (fun _ _ => rfl)) (jv 4) (fun _ _ => rfl)) (je_call (m := [true, false]) F_Ldraw hr rfl g_Ldraw k_Ldraw b_Ldraw (ja_cons (jv 0) (ja_cons (je_op d_pow je_int je_int) ja_nil)))) (je_op d_mulT (je_ix d_ix (je_ix d_ix (jv 1) je_int (fun _ _ => rfl)) (jv 4) (fun _ _ => rfl)) (je_op d_addB je_int (je_call (m := [true, false]) F_Ldraw hr rfl g_Ldraw k_Ldraw b_Ldraw (ja_cons (jv 0) (ja_cons (je_op d_pow je_int je_int) ja_nil)))))) (pg_sub (jpv 5) (jv 4) set_list)))
    (jss_one (js_ret (je_ty c_tup rfl z_tuple boot_tuple (ja_cons (jv 5) ja_nil))))))))
set_option maxHeartbeats 0 in
theorem ok_Linner {P : Program} {w : World} {K : PySem.W.Frag} {mg : Str → Option Value} {base : Heap} {f : Addr} {fd : FuncData} (F : Fun K "_law_inner" "_law_inner" s_Linner f fd) (z_range : mg "range" = none) (z_int : mg "int" = none) : FnG P w K mg base CX0 1 f fd ["_law_one_here", "_law_other", "_law_side"] (liftSp K sp_Linner) := by
  have nd := sc_Linner.nd
  refine okD (wb := w_Linner) F sc_Linner ln_Linner (fun cdv A outer s H E hr => ?_) rd_Linner
  exact (jss_one (js_ret (je_ofL (jl_comp (own := [("_law_k", 3)]) rfl nd (ji_range2 rfl z_range (ja_cons je_int (ja_cons (je_op d_addB (je_op d_div (jv 2) (jv 0)) je_int) ja_nil))) (blkOk_by (by kernel_rfl)) (by decide) (fun _ _ _ _ _ => (jgn 3 nd)) (fun _ _ _ _ _ => (jts_one (jt_w (jw_and (jt_cmp d_gt (je_op d_subB (jv 2) (je_op d_mulT (jv 0) (jv 3))) je_int) (jw_and1 (jt_cmp (d_eq hr.u64) (je_op d_mod (je_ty c_int rfl z_int boot_int (ja_cons (je_op d_subB (jv 2) (je_op d_mulT (jv 0) (jv 3))) ja_nil)) (jv 1)) je_int)))))) (fun _ _ _ _ _ => (je_op d_mulT (jv 0) (jv 3)))))))
set_option maxHeartbeats 0 in
theorem ok_Llines {P : Program} {w : World} {K : PySem.W.Frag} {mg : Str → Option Value} {base : Heap} {f : Addr} {fd : FuncData} (F : Fun K "_law_lines" "_law_lines" s_Llines f fd) (z_len : mg "len" = none) (z_range : mg "range" = none) : FnG P w K mg base CX0 1 f fd ["_law_box"] (liftSp K sp_Llines) := by
  have nd := sc_Llines.nd
  refine okD (wb := w_Llines) F sc_Llines ln_Llines (fun cdv A outer s H E hr => ?_) rd_Llines
  exact (jss_one (js_ret (je_op d_addB (je_ofL (jl_comp (own := [("_law_axis", 1)]) rfl nd (ji_range1 rfl z_range (ja_cons (je_fn c_len rfl z_len boot_len (ja_cons (jv 0) ja_nil)) ja_nil)) (blkOk_by (by kernel_rfl)) (by decide) (fun _ _ _ _ _ => (jgn 1 nd)) (fun _ _ _ _ _ => jts_nil) (fun _ _ _ _ _ => (je_tup (ja_cons je_int (ja_cons (jv 1) ja_nil)))))) (je_ofL (jl_comp (own := [("_law_axis", 1)]) rfl nd (ji_range1 rfl z_range (ja_cons (je_fn c_len rfl z_len boot_len (ja_cons (jv 0) ja_nil)) ja_nil)) (blkOk_by (by kernel_rfl)) (by decide) (fun _ _ _ _ _ => (jgn 1 nd)) (fun _ _ _ _ _ => jts_nil) (fun _ _ _ _ _ => (je_tup (ja_cons je_int (ja_cons (jv 1) ja_nil)))))))))
set_option maxHeartbeats 0 in
theorem ok_Lleast {P : Program} {w : World} {K : PySem.W.Frag} {mg : Str → Option Value} {base : Heap} {f : Addr} {fd : FuncData} (F : Fun K "_law_least" "_law_least" s_Lleast f fd) (z_int : mg "int" = none) {f_Ldivisor : Addr} {fd_Ldivisor : FuncData} (F_Ldivisor : FnG P w K mg base CX0 1 f_Ldivisor fd_Ldivisor ["_law_one_here", "_law_other"] (liftSp K sp_common)) (g_Ldivisor : mg "_law_divisor" = some (.ref f_Ldivisor)) (k_Ldivisor : PySem.W.keepIn K (.ref f_Ldivisor) = true) (b_Ldivisor : Binds K fd_Ldivisor ["_law_one_here", "_law_other"] []) : FnG P w K mg base CX0 2 f fd ["_law_one_here", "_law_other", "_law_side"] (liftSp K sp_Lleast) := by
  have nd := sc_Lleast.nd
  replace F_Ldivisor := F_Ldivisor.mono (show 1 ≤ 1 by decide)
  refine okD (wb := w_Lleast) F sc_Lleast ln_Lleast (fun cdv A outer s H E hr => ?_) rd_Lleast
  exact (jss_cons (jset 3 nd (jm_e (je_call (m := []) F_Ldivisor hr rfl g_Ldivisor k_Ldivisor b_Ldivisor (ja_cons (jv 0) (ja_cons (jv 1) ja_nil)))))
    (jss_cons (js_if (jt_cmp (d_ne hr.u64) (je_op d_mod (je_ty c_int rfl z_int boot_int (ja_cons (jv 2) ja_nil)) (jv 3)) je_int) (jss_one (js_ret je_non)) jss_nil)
    (jss_cons (jpar3 (i := 0) (j := 1) (l := 2) rfl nd rfl rfl rfl (by decide) (by decide) (by decide) (jms_cons (jm_e (je_op d_div (jv 0) (jv 3))) (jms_cons (jm_e (je_op d_div (jv 1) (jv 3))) (jms_cons (jm_e (je_op d_div (jv 2) (jv 3))) jms_nil))))
    (jss_cons (js_asgG (je_tup (ja_cons (je_op d_mod (je_ty c_int rfl z_int boot_int (ja_cons (jv 0) ja_nil)) (jv 1)) (ja_cons (jv 1) (ja_cons je_int (ja_cons je_int ja_nil))))) (jg_tup rfl (jgs_cons (jgn 4 nd) (jgs_cons (jgn 5 nd) (jgs_cons (jgn 6 nd) (jgs_cons (jgn 7 nd) jgs_nil)))) (gs_lenN (gs_lenN (gs_lenN (gs_lenN gs_len0))))))
    (jss_cons (js_while PassesOwn.never (jt_cmp d_gt (jv 4) je_int) (jss_cons (jset 8 nd (jm_e (je_op d_div (jv 5) (jv 4))))
    (jss_one (js_asgG (je_tup (ja_cons (je_op d_subB (jv 5) (je_op d_mulT (jv 8) (jv 4))) (ja_cons (jv 4) (ja_cons (je_op d_subB (jv 7) (je_op d_mulT (jv 8) (jv 6))) (ja_cons (jv 6) ja_nil))))) (jg_tup rfl (jgs_cons (jgn 4 nd) (jgs_cons (jgn 5 nd) (jgs_cons (jgn 6 nd) (jgs_cons (jgn 7 nd) jgs_nil)))) (gs_lenN (gs_lenN (gs_lenN (gs_lenN gs_len0)))))))))
    (jss_one (js_ret (je_op d_mod (je_ty c_int rfl z_int boot_int (ja_cons (je_op d_mulT (jv 2) (jv 7)) ja_nil)) (jv 1)))))))))
set_option maxHeartbeats 0 in
theorem ok_Lmany_cuts {P : Program} {w : World} {K : PySem.W.Frag} {mg : Str → Option Value} {base : Heap} {f : Addr} {fd : FuncData} (F : Fun K "_law_many_cuts" "_law_many_cuts" s_Lmany_cuts f fd) (z_max : mg "max" = none) (z_int : mg "int" = none) {f_Lleast : Addr} {fd_Lleast : FuncData} (F_Lleast : FnG P w K mg base CX0 2 f_Lleast fd_Lleast ["_law_one_here", "_law_other", "_law_side"] (liftSp K sp_Lleast)) (g_Lleast : mg "_law_least" = some (.ref f_Lleast)) (k_Lleast : PySem.W.keepIn K (.ref f_Lleast) = true) (b_Lleast : Binds K fd_Lleast ["_law_one_here", "_law_other", "_law_side"] []) {f_Llcm : Addr} {fd_Llcm : FuncData} (F_Llcm : FnG P w K mg base CX0 2 f_Llcm fd_Llcm ["_law_one_here", "_law_other"] (liftSp K sp_Llcm)) (g_Llcm : mg "_law_lcm" = some (.ref f_Llcm)) (k_Llcm : PySem.W.keepIn K (.ref f_Llcm) = true) (b_Llcm : Binds K fd_Llcm ["_law_one_here", "_law_other"] []) {f_Lrests : Addr} {fd_Lrests : FuncData} (F_Lrests : FnG P w K mg base CX0 1 f_Lrests fd_Lrests ["_law_brick", "_law_box"] (liftSp K sp_Lrests)) (g_Lrests : mg "_law_rests" = some (.ref f_Lrests)) (k_Lrests : PySem.W.keepIn K (.ref f_Lrests) = true) (b_Lrests : Binds K fd_Lrests ["_law_brick", "_law_box"] []) : FnG P w K mg base CX0 3 f fd ["_law_pair", "_law_box", "_law_first", "_law_axis"] (liftSp K sp_Lmany_cuts) := by
  have nd := sc_Lmany_cuts.nd
  replace F_Lleast := F_Lleast.mono (show 2 ≤ 2 by decide)
  replace F_Llcm := F_Llcm.mono (show 2 ≤ 2 by decide)
  replace F_Lrests := F_Lrests.mono (show 1 ≤ 2 by decide)
  refine okD (wb := w_Lmany_cuts) F sc_Lmany_cuts ln_Lmany_cuts (fun cdv A outer s H E hr => ?_) rd_Lmany_cuts
  exact (jss_cons (jpar3 (i := 4) (j := 5) (l := 6) rfl nd rfl rfl rfl (by decide) (by decide) (by decide) (jms_cons (jm_e (je_ix d_ix (jv 0) (jv 2) (fun _ _ => rfl))) (jms_cons (jm_e (je_ix d_ix (jv 0) (je_op d_subB je_int (jv 2)) (fun _ _ => rfl))) (jms_cons (jm_e (je_ix d_ix (jv 1) (jv 3) (fun _ _ => rfl))) jms_nil))))
    (jss_cons (jset 7 nd (jm_e (je_op d_addB (je_ty c_int rfl z_int boot_int (ja_cons (je_cmp (d_eq hr.u64) (je_call (m := []) F_Lrests hr rfl g_Lrests k_Lrests b_Lrests (ja_cons (jv 4) (ja_cons (jv 1) ja_nil))) (je_ofL (jl_lst ja_nil))) ja_nil)) (je_ty c_int rfl z_int boot_int (ja_cons (je_cmp (d_eq hr.u64) (je_call (m := []) F_Lrests hr rfl g_Lrests k_Lrests b_Lrests (ja_cons (jv 5) (ja_cons (jv 1) ja_nil))) (je_ofL (jl_lst ja_nil))) ja_nil)))))
    (jss_cons (js_if (jt_cmp (d_ne hr.u64) (je_ofL (jl_comp (own := [("_law_k", 8)]) rfl nd (ji_seq (je_op d_addB (je_call (m := []) F_Lrests hr rfl g_Lrests k_Lrests b_Lrests (ja_cons (jv 4) (ja_cons (jv 1) ja_nil))) (je_call (m := []) F_Lrests hr rfl g_Lrests k_Lrests b_Lrests (ja_cons (jv 5) (ja_cons (jv 1) ja_nil))))) (blkOk_by (by kernel_rfl)) (by decide) (fun _ _ _ _ _ => (jgn 8 nd)) (fun _ _ _ _ _ => (jts_one (jt_cmp (d_ne hr.u64) (jv 8) (jv 3)))) (fun _ _ _ _ _ => (jv 8)))) (je_ofL (jl_lst ja_nil))) (jss_one (js_ret (jv 7))) jss_nil)
    (jss_cons (jpar (i := 9) (j := 10) rfl nd rfl rfl (by decide) (jms_cons (jm_e (je_call (m := []) F_Lleast hr rfl g_Lleast k_Lleast b_Lleast (ja_cons (je_ix d_ix (jv 4) (jv 3) (fun _ _ => rfl)) (ja_cons (je_ix d_ix (jv 5) (jv 3) (fun _ _ => rfl)) (ja_cons (jv 6) ja_nil))))) (jms_cons (jm_e (je_call (m := []) F_Llcm hr rfl g_Llcm k_Llcm b_Llcm (ja_cons (je_ix d_ix (jv 4) (jv 3) (fun _ _ => rfl)) (ja_cons (je_ix d_ix (jv 5) (jv 3) (fun _ _ => rfl)) ja_nil)))) jms_nil)))
    (jss_cons (js_if (jt_cmp d_is (jv 9) je_non) (jss_one (js_ret (jv 7))) jss_nil)
    (jss_cons (jset 11 nd (jm_e (je_ifE (jt_cmp d_gt (jv 9) je_int) (je_op d_mulT (je_ix d_ix (jv 4) (jv 3) (fun _ _ => rfl)) (jv 9)) (jv 10))))
    (jss_one (js_ret (je_op d_addB (jv 7) (je_fn (c_max2 rfl) rfl z_max boot_max (ja_cons je_int (ja_cons (je_op d_addB (je_op d_div (je_op d_subB (je_op d_subB (jv 6) je_int) (jv 11)) (jv 10)) je_int) ja_nil))))))))))))
set_option maxHeartbeats 0 in
theorem ok_law {P : Program} {w : World} {K : PySem.W.Frag} {mg : Str → Option Value} {base : Heap} {f : Addr} {fd : FuncData} (F : Fun K "law" "law" s_law f fd) {TL : XNames} (z_len : mg "len" = none) (z_repr : mg "repr" = none) (z_range : mg "range" = none) (z_sorted : mg "sorted" = none) (z_int : mg "int" = none) (z_sum : mg "sum" = none) {f_count_cuts : Addr} {fd_count_cuts : FuncData} (F_count_cuts : FnG P w K mg base CX0 6 f_count_cuts fd_count_cuts ["pair", "box"] (liftSp K sp_count_cuts)) (g_count_cuts : mg "count_cuts" = some (.ref f_count_cuts)) (k_count_cuts : PySem.W.keepIn K (.ref f_count_cuts) = true) (b_count_cuts : Binds K fd_count_cuts ["pair", "box"] []) {f_cut_at : Addr} {fd_cut_at : FuncData} (F_cut_at : FnG P w K mg base (L2N.CX P w) 7 f_cut_at fd_cut_at ["pair", "box", "number"] (liftSpX K TL sp_cut_at)) (g_cut_at : mg "cut_at" = some (.ref f_cut_at)) (k_cut_at : PySem.W.keepIn K (.ref f_cut_at) = true) (b_cut_at : Binds K fd_cut_at ["pair", "box", "number"] []) {f_Linner : Addr} {fd_Linner : FuncData} (F_Linner : FnG P w K mg base CX0 1 f_Linner fd_Linner ["_law_one_here", "_law_other", "_law_side"] (liftSp K sp_Linner)) (g_Linner : mg "_law_inner" = some (.ref f_Linner)) (k_Linner : PySem.W.keepIn K (.ref f_Linner) = true) (b_Linner : Binds K fd_Linner ["_law_one_here", "_law_other", "_law_side"] []) {f_Ldraw : Addr} {fd_Ldraw : FuncData} (F_Ldraw : FnG P w K mg base CX0 1 f_Ldraw fd_Ldraw ["_law_deck_here", "_law_many"] (liftSp K sp_Ldraw)) (g_Ldraw : mg "_law_draw" = some (.ref f_Ldraw)) (k_Ldraw : PySem.W.keepIn K (.ref f_Ldraw) = true) (b_Ldraw : Binds K fd_Ldraw ["_law_deck_here", "_law_many"] []) {f_Llcm : Addr} {fd_Llcm : FuncData} (F_Llcm : FnG P w K mg base CX0 2 f_Llcm fd_Llcm ["_law_one_here", "_law_other"] (liftSp K sp_Llcm)) (g_Llcm : mg "_law_lcm" = some (.ref f_Llcm)) (k_Llcm : PySem.W.keepIn K (.ref f_Llcm) = true) (b_Llcm : Binds K fd_Llcm ["_law_one_here", "_law_other"] []) {f_cut_number : Addr} {fd_cut_number : FuncData} (F_cut_number : FnG P w K mg base CX0 6 f_cut_number fd_cut_number ["pair", "box", "value"] (liftSp K sp_cut_number)) (g_cut_number : mg "cut_number" = some (.ref f_cut_number)) (k_cut_number : PySem.W.keepIn K (.ref f_cut_number) = true) (b_cut_number : Binds K fd_cut_number ["pair", "box", "value"] []) {f_Lis_cut : Addr} {fd_Lis_cut : FuncData} (F_Lis_cut : FnG P w K mg base CX0 3 f_Lis_cut fd_Lis_cut ["_law_pair", "_law_box", "_law_value"] (liftSp K sp_Lis_cut)) (g_Lis_cut : mg "_law_is_cut" = some (.ref f_Lis_cut)) (k_Lis_cut : PySem.W.keepIn K (.ref f_Lis_cut) = true) (b_Lis_cut : Binds K fd_Lis_cut ["_law_pair", "_law_box", "_law_value"] []) {f_Lwhole : Addr} {fd_Lwhole : FuncData} (F_Lwhole : FnG P w K mg base CX0 1 f_Lwhole fd_Lwhole ["_law_value", "_law_least_here", "_law_most"] (liftSp K sp_is_integer)) (g_Lwhole : mg "_law_whole" = some (.ref f_Lwhole)) (k_Lwhole : PySem.W.keepIn K (.ref f_Lwhole) = true) (b_Lwhole : Binds K fd_Lwhole ["_law_value", "_law_least_here", "_law_most"] []) {f_Llines : Addr} {fd_Llines : FuncData} (F_Llines : FnG P w K mg base CX0 1 f_Llines fd_Llines ["_law_box"] (liftSp K sp_Llines)) (g_Llines : mg "_law_lines" = some (.ref f_Llines)) (k_Llines : PySem.W.keepIn K (.ref f_Llines) = true) (b_Llines : Binds K fd_Llines ["_law_box"] []) {f_Lmany_cuts : Addr} {fd_Lmany_cuts : FuncData} (F_Lmany_cuts : FnG P w K mg base CX0 3 f_Lmany_cuts fd_Lmany_cuts ["_law_pair", "_law_box", "_law_first", "_law_axis"] (liftSp K sp_Lmany_cuts)) (g_Lmany_cuts : mg "_law_many_cuts" = some (.ref f_Lmany_cuts)) (k_Lmany_cuts : PySem.W.keepIn K (.ref f_Lmany_cuts) = true) (b_Lmany_cuts : Binds K fd_Lmany_cuts ["_law_pair", "_law_box", "_law_first", "_law_axis"] []) {f_Lgreat_filled : Addr} {fd_Lgreat_filled : FuncData} (F_Lgreat_filled : FnG P w K mg base CX0 3 f_Lgreat_filled fd_Lgreat_filled ["_law_deck_here", "_law_pair"] (liftSp K sp_Lgreat_filled)) (g_Lgreat_filled : mg "_law_great_filled" = some (.ref f_Lgreat_filled)) (k_Lgreat_filled : PySem.W.keepIn K (.ref f_Lgreat_filled) = true) (b_Lgreat_filled : Binds K fd_Lgreat_filled ["_law_deck_here", "_law_pair"] []) {f_Lscaled : Addr} {fd_Lscaled : FuncData} (F_Lscaled : FnG P w K mg base CX0 3 f_Lscaled fd_Lscaled ["_law_deck_here", "_law_axes"] (liftSp K sp_Lscaled)) (g_Lscaled : mg "_law_scaled" = some (.ref f_Lscaled)) (k_Lscaled : PySem.W.keepIn K (.ref f_Lscaled) = true) (b_Lscaled : Binds K fd_Lscaled ["_law_deck_here", "_law_axes"] []) {f_Ldeck : Addr} {fd_Ldeck : FuncData} (F_Ldeck : FnG P w K mg base CX0 1 f_Ldeck fd_Ldeck ["_law_script"] (liftM K sp_Ldeck)) (g_Ldeck : mg "_law_deck" = some (.ref f_Ldeck)) (k_Ldeck : PySem.W.keepIn K (.ref f_Ldeck) = true) (b_Ldeck : Binds K fd_Ldeck ["_law_script"] []) : FnG P w K mg base CX0 8 f fd ["_law_script"] (liftSp K sp_law) := by
  have nd := sc_law.nd
  replace F_count_cuts := F_count_cuts.mono (show 6 ≤ 7 by decide)
  replace F_cut_at := F_cut_at.mono (show 7 ≤ 7 by decide)
  replace F_Linner := F_Linner.mono (show 1 ≤ 7 by decide)
  replace F_Ldraw := F_Ldraw.mono (show 1 ≤ 7 by decide)
  replace F_Llcm := F_Llcm.mono (show 2 ≤ 7 by decide)
  replace F_cut_number := F_cut_number.mono (show 6 ≤ 7 by decide)
  replace F_Lis_cut := F_Lis_cut.mono (show 3 ≤ 7 by decide)
  replace F_Lwhole := F_Lwhole.mono (show 1 ≤ 7 by decide)
  replace F_Llines := F_Llines.mono (show 1 ≤ 7 by decide)
  replace F_Lmany_cuts := F_Lmany_cuts.mono (show 3 ≤ 7 by decide)
  replace F_Lgreat_filled := F_Lgreat_filled.mono (show 3 ≤ 7 by decide)
  replace F_Lscaled := F_Lscaled.mono (show 3 ≤ 7 by decide)
  replace F_Ldeck := F_Ldeck.mono (show 1 ≤ 7 by decide)
  refine okD (wb := w_law) F sc_law ln_law (fun cdv A outer s H E hr => ?_) rd_law
  exact (jss_cons (jset 1 nd (jm_call (m := [true]) F_Ldeck hr rfl g_Ldeck k_Ldeck b_Ldeck (ja_cons (jv 0) ja_nil)))
    (jss_cons (js_for PassesOwn.never rfl (ji_range1 rfl z_range (ja_cons je_int ja_nil)) (jgn 2 nd) (jss_cons (jset 3 nd (jm_e (je_call (m := [true, false]) F_Lscaled hr rfl g_Lscaled k_Lscaled b_Lscaled (ja_cons (jv 1) (ja_cons (je_op d_addB je_int (je_call (m := [true, false]) F_Ldraw hr rfl g_Ldraw k_Ldraw b_Ldraw (ja_cons (jv 1) (ja_cons je_int ja_nil)))) ja_nil)))))
    (jss_cons (jset 4 nd (jm_e (je_call (m := [true, false]) F_Lgreat_filled hr rfl g_Lgreat_filled k_Lgreat_filled b_Lgreat_filled (ja_cons (jv 1) (ja_cons (jv 3) ja_nil)))))
    (jss_cons (jset 5 nd (jm_e (je_call (m := []) F_count_cuts hr rfl g_count_cuts k_count_cuts b_count_cuts (ja_cons (jv 3) (ja_cons (jv 4) ja_nil)))))
    (jss_cons (js_if (jt_cmp (d_ne hr.u64) (jv 5) (je_fn (c_sum rfl) rfl z_sum boot_sum (ja_cons (je_ofL (jl_comp (own := [("_law_first", 6), ("_law_axis", 7)]) rfl nd (ji_seq (je_call (m := []) F_Llines hr rfl g_Llines k_Llines b_Llines (ja_cons (jv 4) ja_nil))) (blkOk_by (by kernel_rfl)) (by decide) (fun _ _ _ _ _ => (jg_tup rfl (jgs_cons (jgn 6 nd) (jgs_cons (jgn 7 nd) jgs_nil)) (gs_lenN (gs_lenN gs_len0)))) (fun _ _ _ _ _ => jts_nil) (fun _ _ _ _ _ => (je_call (m := []) F_Lmany_cuts hr rfl g_Lmany_cuts k_Lmany_cuts b_Lmany_cuts (ja_cons (jv 3) (ja_cons (jv 4) (ja_cons (jv 6) (ja_cons (jv 7) ja_nil)))))))) ja_nil))) (jss_one (js_ret je_bl)) jss_nil)
    (jss_cons (js_if (jt_w (jw_or (jt_cmp (d_ne hr.u64) (jv 5) (je_call (m := []) F_count_cuts hr rfl g_count_cuts k_count_cuts b_count_cuts (ja_cons (je_revA (jv 3)) (ja_cons (jv 4) ja_nil)))) (jw_or (jt_cmp (d_ltT hr.u64) (jv 5) je_int) (jw_or1 (jt_cmp (d_ne hr.u64) (je_op d_mod (je_ty c_int rfl z_int boot_int (ja_cons (jv 5) ja_nil)) je_int) je_int))))) (jss_one (js_ret je_bl)) jss_nil)
    (jss_one (js_for PassesOwn.never rfl (ji_seq (je_ofL (jl_lst (ja_cons je_int (ja_cons (je_op d_subB (jv 5) je_int) (ja_cons (je_call (m := [true, false]) F_Ldraw hr rfl g_Ldraw k_Ldraw b_Ldraw (ja_cons (jv 1) (ja_cons (jv 5) ja_nil))) (ja_cons (je_call (m := [true, false]) F_Ldraw hr rfl g_Ldraw k_Ldraw b_Ldraw (ja_cons (jv 1) (ja_cons (jv 5) ja_nil))) ja_nil))))))) (jgn 8 nd) (jss_cons (jset 9 nd (jm_e (jnx (TL := TL) (jex_call (m := []) F_cut_at hr rfl g_cut_at k_cut_at b_cut_at (jxa (ja_cons (jv 3) (ja_cons (jv 4) (ja_cons (jv 8) ja_nil))))))))
    (jss_cons (js_if (jt_w (jw_or (jt_not (jt_val (je_call (m := []) F_Lwhole hr rfl g_Lwhole k_Lwhole b_Lwhole (ja_cons (je_ix d_ix (jv 9) je_int (fun _ _ => rfl)) (ja_cons je_int (ja_cons (je_ix d_ix (jv 4) (je_ix d_ix (jv 9) je_int (fun _ _ => rfl)) (fun _ _ => rfl)) ja_nil)))))) (jw_or1 (jt_not (jt_val (je_call (m := []) F_Lis_cut hr rfl g_Lis_cut k_Lis_cut b_Lis_cut (ja_cons (jv 3) (ja_cons (jv 4) (ja_cons (jv 9) ja_nil))))))))) (jss_one (js_ret je_bl)) jss_nil)
    (jss_cons (js_if (jt_cmp (d_ne hr.u64) (je_fn (c_reprN hr.gd hr.u64) rfl z_repr boot_repr (ja_cons (je_call (m := []) F_cut_number hr rfl g_cut_number k_cut_number b_cut_number (ja_cons (jv 3) (ja_cons (jv 4) (ja_cons (jv 9) ja_nil)))) ja_nil)) (je_fn (c_reprN hr.gd hr.u64) rfl z_repr boot_repr (ja_cons (jv 8) ja_nil))) (jss_one (js_ret je_bl)) jss_nil)
    (jss_cons (js_for PassesOwn.never rfl (ji_seq (je_ofL (jl_lst (ja_cons (je_tup (ja_cons (je_ix d_ix (jv 9) je_int (fun _ _ => rfl)) (ja_cons (je_ix d_ix (jv 9) je_int (fun _ _ => rfl)) (ja_cons (je_op d_addB (je_ix d_ix (jv 9) je_int (fun _ _ => rfl)) je_int) ja_nil)))) (ja_cons (je_tup (ja_cons (je_ix d_ix (jv 9) je_int (fun _ _ => rfl)) (ja_cons (je_ix d_ix (jv 9) je_int (fun _ _ => rfl)) (ja_cons (je_op d_subB (je_ix d_ix (jv 9) je_int (fun _ _ => rfl)) je_int) ja_nil)))) (ja_cons (je_tup (ja_cons (je_op d_subB je_int (je_ix d_ix (jv 9) je_int (fun _ _ => rfl))) (ja_cons (je_ix d_ix (jv 9) je_int (fun _ _ => rfl)) (ja_cons (je_ix d_ix (jv 9) je_int (fun _ _ => rfl)) ja_nil)))) ja_nil)))))) (jgn 10 nd) (jss_cons (jset 11 nd (jm_e (je_and (je_chain d_le d_le je_int (je_ix d_ix (jv 10) je_int (fun _ _ => rfl)) (je_ix d_ix (jv 4) (je_ix d_ix (jv 9) je_int (fun _ _ => rfl)) (fun _ _ => rfl))) (je_one (je_call (m := []) F_Lis_cut hr rfl g_Lis_cut k_Lis_cut b_Lis_cut (ja_cons (jv 3) (ja_cons (jv 4) (ja_cons (jv 10) ja_nil))))))))
    (jss_one (js_if (jt_cmp (d_ne hr.u64) (je_cmp d_isnot (je_call (m := []) F_cut_number hr rfl g_cut_number k_cut_number b_cut_number (ja_cons (jv 3) (ja_cons (jv 4) (ja_cons (jv 10) ja_nil)))) je_non) (jv 11)) (jss_one (js_ret je_bl)) jss_nil))))
    (jss_cons (jset 12 nd (jm_e (je_ifE (jt_cmp (d_ltT hr.u64) (je_op d_addB (jv 8) je_int) (jv 5)) (jnx (TL := TL) (jex_call (m := []) F_cut_at hr rfl g_cut_at k_cut_at b_cut_at (jxa (ja_cons (jv 3) (ja_cons (jv 4) (ja_cons (je_op d_addB (jv 8) je_int) ja_nil)))))) je_non)))
    (jss_cons (js_if (jt_w (jw_and (jt_cmp d_isnot (jv 12) je_non) (jw_and1 (jt_not (jt_cmp (d_ltT hr.u64) (jv 9) (jv 12)))))) (jss_one (js_ret je_bl)) jss_nil)
    (jss_cons (jset 13 nd (jm_e (je_call (m := []) F_Llcm hr rfl g_Llcm k_Llcm b_Llcm (ja_cons (je_ix d_ix (je_ix d_ix (jv 3) je_int (fun _ _ => rfl)) (je_ix d_ix (jv 9) je_int (fun _ _ => rfl)) (fun _ _ => rfl)) (ja_cons (je_ix d_ix (je_ix d_ix (jv 3) je_int (fun _ _ => rfl)) (je_ix d_ix (jv 9) je_int (fun _ _ => rfl)) (fun _ _ => rfl)) ja_nil)))))
    (jss_one (js_if (jt_w (jw_and (jt_cmp d_isnot (jv 12) je_non) (jw_and (jt_cmp (d_eq hr.u64) (je_sl d_sl (jv 12) jo_none (jo_some je_int)) (je_sl d_sl (jv 9) jo_none (jo_some je_int))) (jw_and (jt_cmp (d_ltT hr.u64) je_int (je_ix d_ix (jv 9) je_int (fun _ _ => rfl))) (jw_and1 (jt_cmp (d_ltT hr.u64) (je_ix d_ix (jv 12) je_int (fun _ _ => rfl)) (je_ix d_ix (jv 4) (je_ix d_ix (jv 9) je_int (fun _ _ => rfl)) (fun _ _ => rfl)))))))) (jss_one (js_if (jt_cmp (d_ne hr.u64) (je_op d_subB (je_ix d_ix (jv 12) je_int (fun _ _ => rfl)) (je_ix d_ix (jv 9) je_int (fun _ _ => rfl))) (jv 13)) (jss_one (js_ret je_bl)) jss_nil)) jss_nil)))))))))))))))))
    (jss_cons (js_asgG (je_tup (ja_cons (je_op d_addB (je_op d_pow je_int je_int) (je_call (m := [true, false]) F_Ldraw hr rfl g_Ldraw k_Ldraw b_Ldraw (ja_cons (jv 1) (ja_cons (je_op d_pow je_int je_int) ja_nil)))) (ja_cons (je_op d_addB (je_op d_pow je_int je_int) (je_call (m := [true, false]) F_Ldraw hr rfl g_Ldraw k_Ldraw b_Ldraw (ja_cons (jv 1) (ja_cons (je_op d_pow je_int je_int) ja_nil)))) ja_nil))) (jg_tup rfl (jgs_cons (jgn 14 nd) (jgs_cons (jgn 15 nd) jgs_nil)) (gs_lenN (gs_lenN gs_len0))))
    (jss_cons (jset 16 nd (jm_e (je_op d_addB (je_op d_mulT (jv 14) (je_call (m := [true, false]) F_Ldraw hr rfl g_Ldraw k_Ldraw b_Ldraw (ja_cons (jv 1) (ja_cons je_int ja_nil)))) (je_op d_mulT (jv 15) (je_op d_addB je_int (je_call (m := [true, false]) F_Ldraw hr rfl g_Ldraw k_Ldraw b_Ldraw (ja_cons (jv 1) (ja_cons je_int ja_nil))))))))
    (jss_cons (js_if (jt_cmp d_gt (jv 16) (je_op d_pow je_int je_int)) (jss_one (js_ret je_bl)) jss_nil)
    (jss_cons (jset 17 nd (jm_e (je_op d_addB (je_op d_mulT (je_ofL (jl_lst (ja_cons je_int ja_nil))) (je_ty c_int rfl z_int boot_int (ja_cons (je_cmp (d_eq hr.u64) (je_op d_mod (je_ty c_int rfl z_int boot_int (ja_cons (jv 16) ja_nil)) (jv 15)) je_int) ja_nil))) (je_op d_mulT (je_ofL (jl_lst (ja_cons (jv 16) ja_nil))) (je_ty c_int rfl z_int boot_int (ja_cons (je_cmp (d_eq hr.u64) (je_op d_mod (je_ty c_int rfl z_int boot_int (ja_cons (jv 16) ja_nil)) (jv 14)) je_int) ja_nil))))))
    (jss_cons (jset 18 nd (jm_e (je_fn (c_sorted hr.u64) rfl z_sorted boot_sorted (ja_cons (je_op d_addB (jv 17) (je_call (m := []) F_Linner hr rfl g_Linner k_Linner b_Linner (ja_cons (jv 14) (ja_cons (jv 15) (ja_cons (jv 16) ja_nil))))) ja_nil))))
    (jss_cons (js_setCE (i := 19) (own := [("_law_k", 20)]) rfl nd rfl rfl (sw_true rfl rfl rfl (by decide +kernel)) (ji_range1 rfl z_range (ja_cons (je_fn c_len rfl z_len boot_len (ja_cons (jv 18) ja_nil)) ja_nil)) (blkOk_by (by kernel_rfl)) (by decide) (fun _ _ _ _ _ => (jgn 20 nd)) (fun _ _ _ _ _ => jts_nil) (fun _ _ _ _ _ => (jnx (TL := TL) (jex_call (m := []) F_cut_at hr rfl g_cut_at k_cut_at b_cut_at (jxa (ja_cons (je_tup (ja_cons (je_tup (ja_cons (jv 14) ja_nil)) (ja_cons (je_tup (ja_cons (jv 15) ja_nil)) ja_nil))) (ja_cons (je_tup (ja_cons (jv 16) ja_nil)) (ja_cons (jv 20) ja_nil))))))))
    (jss_one (js_ret (je_and (je_cmp (d_eq hr.u64) (je_fn (c_reprN hr.gd hr.u64) rfl z_repr boot_repr (ja_cons (jv 19) ja_nil)) (je_fn (c_reprN hr.gd hr.u64) rfl z_repr boot_repr (ja_cons (je_ofL (jl_comp (own := [("_law_at", 21)]) rfl nd (ji_seq (jv 18)) (blkOk_by (by kernel_rfl)) (by decide) (fun _ _ _ _ _ => (jgn 21 nd)) (fun _ _ _ _ _ => jts_nil) (fun _ _ _ _ _ => (je_tup (ja_cons je_int (ja_cons je_int (ja_cons (jv 21) ja_nil))))))) ja_nil))) (je_one (je_cmp (d_eq hr.u64) (je_call (m := []) F_count_cuts hr rfl g_count_cuts k_count_cuts b_count_cuts (ja_cons (je_tup (ja_cons (je_tup (ja_cons (jv 14) ja_nil)) (ja_cons (je_tup (ja_cons (jv 15) ja_nil)) ja_nil))) (ja_cons (je_tup (ja_cons (jv 16) ja_nil)) ja_nil))) (je_op d_mulT je_int (je_fn c_len rfl z_len boot_len (ja_cons (jv 18) ja_nil))))))))))))))))
end K17
set_option Elab.async false
set_option linter.all false
set_option maxRecDepth 100000
set_option maxHeartbeats 4000000
namespace K17
open PySem PySem.Spec PyProof.Rows L2 DL TW
variable [DL.Tb]
theorem all_mk {l : PySem.W.OpenLaw} {w : World} {K : PySem.W.Frag} {h : Heap} {mg : Str → Option Value} {fa : Addr} (X : K.In h) (G : h.Ns mainGlobals mg) (hfa : mg "law" = some (.ref fa))
    {C_Cuts : Addr} (ac_Cuts : PySem.W.nsIn K mainGlobals "Cuts" = some (some (.ref C_Cuts))) (ob_Cuts : ObjK K "Cuts" C_Cuts)
    (mm_Cuts : PySem.W.makesIn K C_Cuts = true) (mp_Cuts : PySem.W.keepIn K (.ref C_Cuts) = true)
    (na_Cuts_at_begin : NoAttr K C_Cuts "at_begin")
    (na_Cuts_amid : NoAttr K C_Cuts "amid")
    (na_Cuts_at_end : NoAttr K C_Cuts "at_end")
    (na_Cuts_step : NoAttr K C_Cuts "step")
    (na_Cuts_begin : NoAttr K C_Cuts "begin")
    (na_Cuts_whole : NoAttr K C_Cuts "whole")
    {od_Cuts_many an_Cuts_many : Option Addr} {sl_Cuts_many : Array (Option Value)} {oc_Cuts_many kV_Cuts_many dc_Cuts_many pm_Cuts_many cd_Cuts_many ct_Cuts_many : Value} {f_Cuts_many : Addr}
    (a_Cuts_many : PySem.W.findIn K (.ref C_Cuts) "many" = some (some (.ref f_Cuts_many))) (i_Cuts_many : PySem.W.isFn K (.ref f_Cuts_many) = true) (l_Cuts_many : K.lookup f_Cuts_many = some ⟨oc_Cuts_many, od_Cuts_many, .func (PySem.W.fnOf "many" "Cuts.many" (defArgs s_Cuts_many) (defBody s_Cuts_many) (defScope s_Cuts_many) .none kV_Cuts_many dc_Cuts_many pm_Cuts_many an_Cuts_many cd_Cuts_many ct_Cuts_many), sl_Cuts_many⟩) (c_Cuts_many : PySem.W.codeIn K cd_Cuts_many "Cuts.many" = true) (k_Cuts_many : PySem.W.keepIn K (.ref f_Cuts_many) = true)
    {od_common an_common : Option Addr} {sl_common : Array (Option Value)} {oc_common kV_common dc_common pm_common cd_common ct_common : Value} {f_common : Addr}
    (a_common : PySem.W.nsIn K mainGlobals "common" = some (some (.ref f_common))) (l_common : K.lookup f_common = some ⟨oc_common, od_common, .func (PySem.W.fnOf "common" "common" (defArgs s_common) (defBody s_common) (defScope s_common) .none kV_common dc_common pm_common an_common cd_common ct_common), sl_common⟩) (c_common : PySem.W.codeIn K cd_common "common" = true) (k_common : PySem.W.keepIn K (.ref f_common) = true)
    {od_joint an_joint : Option Addr} {sl_joint : Array (Option Value)} {oc_joint kV_joint dc_joint pm_joint cd_joint ct_joint : Value} {f_joint : Addr}
    (a_joint : PySem.W.nsIn K mainGlobals "joint" = some (some (.ref f_joint))) (l_joint : K.lookup f_joint = some ⟨oc_joint, od_joint, .func (PySem.W.fnOf "joint" "joint" (defArgs s_joint) (defBody s_joint) (defScope s_joint) .none kV_joint dc_joint pm_joint an_joint cd_joint ct_joint), sl_joint⟩) (c_joint : PySem.W.codeIn K cd_joint "joint" = true) (k_joint : PySem.W.keepIn K (.ref f_joint) = true)
    {od_inverse an_inverse : Option Addr} {sl_inverse : Array (Option Value)} {oc_inverse kV_inverse dc_inverse pm_inverse cd_inverse ct_inverse : Value} {f_inverse : Addr}
    (a_inverse : PySem.W.nsIn K mainGlobals "inverse" = some (some (.ref f_inverse))) (l_inverse : K.lookup f_inverse = some ⟨oc_inverse, od_inverse, .func (PySem.W.fnOf "inverse" "inverse" (defArgs s_inverse) (defBody s_inverse) (defScope s_inverse) .none kV_inverse dc_inverse pm_inverse an_inverse cd_inverse ct_inverse), sl_inverse⟩) (c_inverse : PySem.W.codeIn K cd_inverse "inverse" = true) (k_inverse : PySem.W.keepIn K (.ref f_inverse) = true)
    {od_least_times an_least_times : Option Addr} {sl_least_times : Array (Option Value)} {oc_least_times kV_least_times dc_least_times pm_least_times cd_least_times ct_least_times : Value} {f_least_times : Addr}
    (a_least_times : PySem.W.nsIn K mainGlobals "least_times" = some (some (.ref f_least_times))) (l_least_times : K.lookup f_least_times = some ⟨oc_least_times, od_least_times, .func (PySem.W.fnOf "least_times" "least_times" (defArgs s_least_times) (defBody s_least_times) (defScope s_least_times) .none kV_least_times dc_least_times pm_least_times an_least_times cd_least_times ct_least_times), sl_least_times⟩) (c_least_times : PySem.W.codeIn K cd_least_times "least_times" = true) (k_least_times : PySem.W.keepIn K (.ref f_least_times) = true)
    {od_rests an_rests : Option Addr} {sl_rests : Array (Option Value)} {oc_rests kV_rests dc_rests pm_rests cd_rests ct_rests : Value} {f_rests : Addr}
    (a_rests : PySem.W.nsIn K mainGlobals "rests" = some (some (.ref f_rests))) (l_rests : K.lookup f_rests = some ⟨oc_rests, od_rests, .func (PySem.W.fnOf "rests" "rests" (defArgs s_rests) (defBody s_rests) (defScope s_rests) .none kV_rests dc_rests pm_rests an_rests cd_rests ct_rests), sl_rests⟩) (c_rests : PySem.W.codeIn K cd_rests "rests" = true) (k_rests : PySem.W.keepIn K (.ref f_rests) = true)
    {od_Cuts_init an_Cuts_init : Option Addr} {sl_Cuts_init : Array (Option Value)} {oc_Cuts_init kV_Cuts_init dc_Cuts_init pm_Cuts_init cd_Cuts_init ct_Cuts_init : Value} {f_Cuts_init : Addr}
    (a_Cuts_init : PySem.W.findIn K (.ref C_Cuts) "__init__" = some (some (.ref f_Cuts_init))) (i_Cuts_init : PySem.W.isFn K (.ref f_Cuts_init) = true) (l_Cuts_init : K.lookup f_Cuts_init = some ⟨oc_Cuts_init, od_Cuts_init, .func (PySem.W.fnOf "__init__" "Cuts.__init__" (defArgs s_Cuts_init) (defBody s_Cuts_init) (defScope s_Cuts_init) .none kV_Cuts_init dc_Cuts_init pm_Cuts_init an_Cuts_init cd_Cuts_init ct_Cuts_init), sl_Cuts_init⟩) (c_Cuts_init : PySem.W.codeIn K cd_Cuts_init "Cuts.__init__" = true) (k_Cuts_init : PySem.W.keepIn K (.ref f_Cuts_init) = true)
    {od_all_cuts an_all_cuts : Option Addr} {sl_all_cuts : Array (Option Value)} {oc_all_cuts kV_all_cuts dc_all_cuts pm_all_cuts cd_all_cuts ct_all_cuts : Value} {f_all_cuts : Addr}
    (a_all_cuts : PySem.W.nsIn K mainGlobals "all_cuts" = some (some (.ref f_all_cuts))) (l_all_cuts : K.lookup f_all_cuts = some ⟨oc_all_cuts, od_all_cuts, .func (PySem.W.fnOf "all_cuts" "all_cuts" (defArgs s_all_cuts) (defBody s_all_cuts) (defScope s_all_cuts) .none kV_all_cuts dc_all_cuts pm_all_cuts an_all_cuts cd_all_cuts ct_all_cuts), sl_all_cuts⟩) (c_all_cuts : PySem.W.codeIn K cd_all_cuts "all_cuts" = true) (k_all_cuts : PySem.W.keepIn K (.ref f_all_cuts) = true)
    {od_count_cuts an_count_cuts : Option Addr} {sl_count_cuts : Array (Option Value)} {oc_count_cuts kV_count_cuts dc_count_cuts pm_count_cuts cd_count_cuts ct_count_cuts : Value} {f_count_cuts : Addr}
    (a_count_cuts : PySem.W.nsIn K mainGlobals "count_cuts" = some (some (.ref f_count_cuts))) (l_count_cuts : K.lookup f_count_cuts = some ⟨oc_count_cuts, od_count_cuts, .func (PySem.W.fnOf "count_cuts" "count_cuts" (defArgs s_count_cuts) (defBody s_count_cuts) (defScope s_count_cuts) .none kV_count_cuts dc_count_cuts pm_count_cuts an_count_cuts cd_count_cuts ct_count_cuts), sl_count_cuts⟩) (c_count_cuts : PySem.W.codeIn K cd_count_cuts "count_cuts" = true) (k_count_cuts : PySem.W.keepIn K (.ref f_count_cuts) = true)
    {od_is_integer an_is_integer : Option Addr} {sl_is_integer : Array (Option Value)} {oc_is_integer kV_is_integer dc_is_integer pm_is_integer cd_is_integer ct_is_integer : Value} {f_is_integer : Addr}
    (a_is_integer : PySem.W.nsIn K mainGlobals "is_integer" = some (some (.ref f_is_integer))) (l_is_integer : K.lookup f_is_integer = some ⟨oc_is_integer, od_is_integer, .func (PySem.W.fnOf "is_integer" "is_integer" (defArgs s_is_integer) (defBody s_is_integer) (defScope s_is_integer) .none kV_is_integer dc_is_integer pm_is_integer an_is_integer cd_is_integer ct_is_integer), sl_is_integer⟩) (c_is_integer : PySem.W.codeIn K cd_is_integer "is_integer" = true) (k_is_integer : PySem.W.keepIn K (.ref f_is_integer) = true)
    {od_Cuts_spot an_Cuts_spot : Option Addr} {sl_Cuts_spot : Array (Option Value)} {oc_Cuts_spot kV_Cuts_spot dc_Cuts_spot pm_Cuts_spot cd_Cuts_spot ct_Cuts_spot : Value} {f_Cuts_spot : Addr}
    (a_Cuts_spot : PySem.W.findIn K (.ref C_Cuts) "spot" = some (some (.ref f_Cuts_spot))) (i_Cuts_spot : PySem.W.isFn K (.ref f_Cuts_spot) = true) (l_Cuts_spot : K.lookup f_Cuts_spot = some ⟨oc_Cuts_spot, od_Cuts_spot, .func (PySem.W.fnOf "spot" "Cuts.spot" (defArgs s_Cuts_spot) (defBody s_Cuts_spot) (defScope s_Cuts_spot) .none kV_Cuts_spot dc_Cuts_spot pm_Cuts_spot an_Cuts_spot cd_Cuts_spot ct_Cuts_spot), sl_Cuts_spot⟩) (c_Cuts_spot : PySem.W.codeIn K cd_Cuts_spot "Cuts.spot" = true) (k_Cuts_spot : PySem.W.keepIn K (.ref f_Cuts_spot) = true)
    {od_cut_at an_cut_at : Option Addr} {sl_cut_at : Array (Option Value)} {oc_cut_at kV_cut_at dc_cut_at pm_cut_at cd_cut_at ct_cut_at : Value} {f_cut_at : Addr}
    (a_cut_at : PySem.W.nsIn K mainGlobals "cut_at" = some (some (.ref f_cut_at))) (l_cut_at : K.lookup f_cut_at = some ⟨oc_cut_at, od_cut_at, .func (PySem.W.fnOf "cut_at" "cut_at" (defArgs s_cut_at) (defBody s_cut_at) (defScope s_cut_at) .none kV_cut_at dc_cut_at pm_cut_at an_cut_at cd_cut_at ct_cut_at), sl_cut_at⟩) (c_cut_at : PySem.W.codeIn K cd_cut_at "cut_at" = true) (k_cut_at : PySem.W.keepIn K (.ref f_cut_at) = true)
    {od_with_side an_with_side : Option Addr} {sl_with_side : Array (Option Value)} {oc_with_side kV_with_side dc_with_side pm_with_side cd_with_side ct_with_side : Value} {f_with_side : Addr}
    (a_with_side : PySem.W.nsIn K mainGlobals "with_side" = some (some (.ref f_with_side))) (l_with_side : K.lookup f_with_side = some ⟨oc_with_side, od_with_side, .func (PySem.W.fnOf "with_side" "with_side" (defArgs s_with_side) (defBody s_with_side) (defScope s_with_side) .none kV_with_side dc_with_side pm_with_side an_with_side cd_with_side ct_with_side), sl_with_side⟩) (c_with_side : PySem.W.codeIn K cd_with_side "with_side" = true) (k_with_side : PySem.W.keepIn K (.ref f_with_side) = true)
    {od_is_part an_is_part : Option Addr} {sl_is_part : Array (Option Value)} {oc_is_part kV_is_part dc_is_part pm_is_part cd_is_part ct_is_part : Value} {f_is_part : Addr}
    (a_is_part : PySem.W.nsIn K mainGlobals "is_part" = some (some (.ref f_is_part))) (l_is_part : K.lookup f_is_part = some ⟨oc_is_part, od_is_part, .func (PySem.W.fnOf "is_part" "is_part" (defArgs s_is_part) (defBody s_is_part) (defScope s_is_part) .none kV_is_part dc_is_part pm_is_part an_is_part cd_is_part ct_is_part), sl_is_part⟩) (c_is_part : PySem.W.codeIn K cd_is_part "is_part" = true) (k_is_part : PySem.W.keepIn K (.ref f_is_part) = true)
    {od_is_cut an_is_cut : Option Addr} {sl_is_cut : Array (Option Value)} {oc_is_cut kV_is_cut dc_is_cut pm_is_cut cd_is_cut ct_is_cut : Value} {f_is_cut : Addr}
    (a_is_cut : PySem.W.nsIn K mainGlobals "is_cut" = some (some (.ref f_is_cut))) (l_is_cut : K.lookup f_is_cut = some ⟨oc_is_cut, od_is_cut, .func (PySem.W.fnOf "is_cut" "is_cut" (defArgs s_is_cut) (defBody s_is_cut) (defScope s_is_cut) .none kV_is_cut dc_is_cut pm_is_cut an_is_cut cd_is_cut ct_is_cut), sl_is_cut⟩) (c_is_cut : PySem.W.codeIn K cd_is_cut "is_cut" = true) (k_is_cut : PySem.W.keepIn K (.ref f_is_cut) = true)
    {od_bar_along an_bar_along : Option Addr} {sl_bar_along : Array (Option Value)} {oc_bar_along kV_bar_along dc_bar_along pm_bar_along cd_bar_along ct_bar_along : Value} {f_bar_along : Addr}
    (a_bar_along : PySem.W.nsIn K mainGlobals "bar_along" = some (some (.ref f_bar_along))) (l_bar_along : K.lookup f_bar_along = some ⟨oc_bar_along, od_bar_along, .func (PySem.W.fnOf "bar_along" "bar_along" (defArgs s_bar_along) (defBody s_bar_along) (defScope s_bar_along) .none kV_bar_along dc_bar_along pm_bar_along an_bar_along cd_bar_along ct_bar_along), sl_bar_along⟩) (c_bar_along : PySem.W.codeIn K cd_bar_along "bar_along" = true) (k_bar_along : PySem.W.keepIn K (.ref f_bar_along) = true)
    {od_crossing an_crossing : Option Addr} {sl_crossing : Array (Option Value)} {oc_crossing kV_crossing dc_crossing pm_crossing cd_crossing ct_crossing : Value} {f_crossing : Addr}
    (a_crossing : PySem.W.nsIn K mainGlobals "crossing" = some (some (.ref f_crossing))) (l_crossing : K.lookup f_crossing = some ⟨oc_crossing, od_crossing, .func (PySem.W.fnOf "crossing" "crossing" (defArgs s_crossing) (defBody s_crossing) (defScope s_crossing) .none kV_crossing dc_crossing pm_crossing an_crossing cd_crossing ct_crossing), sl_crossing⟩) (c_crossing : PySem.W.codeIn K cd_crossing "crossing" = true) (k_crossing : PySem.W.keepIn K (.ref f_crossing) = true)
    {od_bar_papers an_bar_papers : Option Addr} {sl_bar_papers : Array (Option Value)} {oc_bar_papers kV_bar_papers dc_bar_papers pm_bar_papers cd_bar_papers ct_bar_papers : Value} {f_bar_papers : Addr}
    (a_bar_papers : PySem.W.nsIn K mainGlobals "bar_papers" = some (some (.ref f_bar_papers))) (l_bar_papers : K.lookup f_bar_papers = some ⟨oc_bar_papers, od_bar_papers, .func (PySem.W.fnOf "bar_papers" "bar_papers" (defArgs s_bar_papers) (defBody s_bar_papers) (defScope s_bar_papers) .none kV_bar_papers dc_bar_papers pm_bar_papers an_bar_papers cd_bar_papers ct_bar_papers), sl_bar_papers⟩) (c_bar_papers : PySem.W.codeIn K cd_bar_papers "bar_papers" = true) (k_bar_papers : PySem.W.keepIn K (.ref f_bar_papers) = true)
    {od_paper_holds an_paper_holds : Option Addr} {sl_paper_holds : Array (Option Value)} {oc_paper_holds kV_paper_holds dc_paper_holds pm_paper_holds cd_paper_holds ct_paper_holds : Value} {f_paper_holds : Addr}
    (a_paper_holds : PySem.W.nsIn K mainGlobals "paper_holds" = some (some (.ref f_paper_holds))) (l_paper_holds : K.lookup f_paper_holds = some ⟨oc_paper_holds, od_paper_holds, .func (PySem.W.fnOf "paper_holds" "paper_holds" (defArgs s_paper_holds) (defBody s_paper_holds) (defScope s_paper_holds) .none kV_paper_holds dc_paper_holds pm_paper_holds an_paper_holds cd_paper_holds ct_paper_holds), sl_paper_holds⟩) (c_paper_holds : PySem.W.codeIn K cd_paper_holds "paper_holds" = true) (k_paper_holds : PySem.W.keepIn K (.ref f_paper_holds) = true)
    {od_Cuts_rank an_Cuts_rank : Option Addr} {sl_Cuts_rank : Array (Option Value)} {oc_Cuts_rank kV_Cuts_rank dc_Cuts_rank pm_Cuts_rank cd_Cuts_rank ct_Cuts_rank : Value} {f_Cuts_rank : Addr}
    (a_Cuts_rank : PySem.W.findIn K (.ref C_Cuts) "rank" = some (some (.ref f_Cuts_rank))) (i_Cuts_rank : PySem.W.isFn K (.ref f_Cuts_rank) = true) (l_Cuts_rank : K.lookup f_Cuts_rank = some ⟨oc_Cuts_rank, od_Cuts_rank, .func (PySem.W.fnOf "rank" "Cuts.rank" (defArgs s_Cuts_rank) (defBody s_Cuts_rank) (defScope s_Cuts_rank) .none kV_Cuts_rank dc_Cuts_rank pm_Cuts_rank an_Cuts_rank cd_Cuts_rank ct_Cuts_rank), sl_Cuts_rank⟩) (c_Cuts_rank : PySem.W.codeIn K cd_Cuts_rank "Cuts.rank" = true) (k_Cuts_rank : PySem.W.keepIn K (.ref f_Cuts_rank) = true)
    {od_cut_number an_cut_number : Option Addr} {sl_cut_number : Array (Option Value)} {oc_cut_number kV_cut_number dc_cut_number pm_cut_number cd_cut_number ct_cut_number : Value} {f_cut_number : Addr}
    (a_cut_number : PySem.W.nsIn K mainGlobals "cut_number" = some (some (.ref f_cut_number))) (l_cut_number : K.lookup f_cut_number = some ⟨oc_cut_number, od_cut_number, .func (PySem.W.fnOf "cut_number" "cut_number" (defArgs s_cut_number) (defBody s_cut_number) (defScope s_cut_number) .none kV_cut_number dc_cut_number pm_cut_number an_cut_number cd_cut_number ct_cut_number), sl_cut_number⟩) (c_cut_number : PySem.W.codeIn K cd_cut_number "cut_number" = true) (k_cut_number : PySem.W.keepIn K (.ref f_cut_number) = true)
    {od_Ldeck an_Ldeck : Option Addr} {sl_Ldeck : Array (Option Value)} {oc_Ldeck kV_Ldeck dc_Ldeck pm_Ldeck cd_Ldeck ct_Ldeck : Value} {f_Ldeck : Addr}
    (a_Ldeck : PySem.W.nsIn K mainGlobals "_law_deck" = some (some (.ref f_Ldeck))) (l_Ldeck : K.lookup f_Ldeck = some ⟨oc_Ldeck, od_Ldeck, .func (PySem.W.fnOf "_law_deck" "_law_deck" (defArgs s_Ldeck) (defBody s_Ldeck) (defScope s_Ldeck) .none kV_Ldeck dc_Ldeck pm_Ldeck an_Ldeck cd_Ldeck ct_Ldeck), sl_Ldeck⟩) (c_Ldeck : PySem.W.codeIn K cd_Ldeck "_law_deck" = true) (k_Ldeck : PySem.W.keepIn K (.ref f_Ldeck) = true)
    {od_Ldraw an_Ldraw : Option Addr} {sl_Ldraw : Array (Option Value)} {oc_Ldraw kV_Ldraw dc_Ldraw pm_Ldraw cd_Ldraw ct_Ldraw : Value} {f_Ldraw : Addr}
    (a_Ldraw : PySem.W.nsIn K mainGlobals "_law_draw" = some (some (.ref f_Ldraw))) (l_Ldraw : K.lookup f_Ldraw = some ⟨oc_Ldraw, od_Ldraw, .func (PySem.W.fnOf "_law_draw" "_law_draw" (defArgs s_Ldraw) (defBody s_Ldraw) (defScope s_Ldraw) .none kV_Ldraw dc_Ldraw pm_Ldraw an_Ldraw cd_Ldraw ct_Ldraw), sl_Ldraw⟩) (c_Ldraw : PySem.W.codeIn K cd_Ldraw "_law_draw" = true) (k_Ldraw : PySem.W.keepIn K (.ref f_Ldraw) = true)
    {od_Lwhole an_Lwhole : Option Addr} {sl_Lwhole : Array (Option Value)} {oc_Lwhole kV_Lwhole dc_Lwhole pm_Lwhole cd_Lwhole ct_Lwhole : Value} {f_Lwhole : Addr}
    (a_Lwhole : PySem.W.nsIn K mainGlobals "_law_whole" = some (some (.ref f_Lwhole))) (l_Lwhole : K.lookup f_Lwhole = some ⟨oc_Lwhole, od_Lwhole, .func (PySem.W.fnOf "_law_whole" "_law_whole" (defArgs s_Lwhole) (defBody s_Lwhole) (defScope s_Lwhole) .none kV_Lwhole dc_Lwhole pm_Lwhole an_Lwhole cd_Lwhole ct_Lwhole), sl_Lwhole⟩) (c_Lwhole : PySem.W.codeIn K cd_Lwhole "_law_whole" = true) (k_Lwhole : PySem.W.keepIn K (.ref f_Lwhole) = true)
    {od_Ldivisor an_Ldivisor : Option Addr} {sl_Ldivisor : Array (Option Value)} {oc_Ldivisor kV_Ldivisor dc_Ldivisor pm_Ldivisor cd_Ldivisor ct_Ldivisor : Value} {f_Ldivisor : Addr}
    (a_Ldivisor : PySem.W.nsIn K mainGlobals "_law_divisor" = some (some (.ref f_Ldivisor))) (l_Ldivisor : K.lookup f_Ldivisor = some ⟨oc_Ldivisor, od_Ldivisor, .func (PySem.W.fnOf "_law_divisor" "_law_divisor" (defArgs s_Ldivisor) (defBody s_Ldivisor) (defScope s_Ldivisor) .none kV_Ldivisor dc_Ldivisor pm_Ldivisor an_Ldivisor cd_Ldivisor ct_Ldivisor), sl_Ldivisor⟩) (c_Ldivisor : PySem.W.codeIn K cd_Ldivisor "_law_divisor" = true) (k_Ldivisor : PySem.W.keepIn K (.ref f_Ldivisor) = true)
    {od_Llcm an_Llcm : Option Addr} {sl_Llcm : Array (Option Value)} {oc_Llcm kV_Llcm dc_Llcm pm_Llcm cd_Llcm ct_Llcm : Value} {f_Llcm : Addr}
    (a_Llcm : PySem.W.nsIn K mainGlobals "_law_lcm" = some (some (.ref f_Llcm))) (l_Llcm : K.lookup f_Llcm = some ⟨oc_Llcm, od_Llcm, .func (PySem.W.fnOf "_law_lcm" "_law_lcm" (defArgs s_Llcm) (defBody s_Llcm) (defScope s_Llcm) .none kV_Llcm dc_Llcm pm_Llcm an_Llcm cd_Llcm ct_Llcm), sl_Llcm⟩) (c_Llcm : PySem.W.codeIn K cd_Llcm "_law_lcm" = true) (k_Llcm : PySem.W.keepIn K (.ref f_Llcm) = true)
    {od_Lrests an_Lrests : Option Addr} {sl_Lrests : Array (Option Value)} {oc_Lrests kV_Lrests dc_Lrests pm_Lrests cd_Lrests ct_Lrests : Value} {f_Lrests : Addr}
    (a_Lrests : PySem.W.nsIn K mainGlobals "_law_rests" = some (some (.ref f_Lrests))) (l_Lrests : K.lookup f_Lrests = some ⟨oc_Lrests, od_Lrests, .func (PySem.W.fnOf "_law_rests" "_law_rests" (defArgs s_Lrests) (defBody s_Lrests) (defScope s_Lrests) .none kV_Lrests dc_Lrests pm_Lrests an_Lrests cd_Lrests ct_Lrests), sl_Lrests⟩) (c_Lrests : PySem.W.codeIn K cd_Lrests "_law_rests" = true) (k_Lrests : PySem.W.keepIn K (.ref f_Lrests) = true)
    {od_Lwith an_Lwith : Option Addr} {sl_Lwith : Array (Option Value)} {oc_Lwith kV_Lwith dc_Lwith pm_Lwith cd_Lwith ct_Lwith : Value} {f_Lwith : Addr}
    (a_Lwith : PySem.W.nsIn K mainGlobals "_law_with" = some (some (.ref f_Lwith))) (l_Lwith : K.lookup f_Lwith = some ⟨oc_Lwith, od_Lwith, .func (PySem.W.fnOf "_law_with" "_law_with" (defArgs s_Lwith) (defBody s_Lwith) (defScope s_Lwith) .none kV_Lwith dc_Lwith pm_Lwith an_Lwith cd_Lwith ct_Lwith), sl_Lwith⟩) (c_Lwith : PySem.W.codeIn K cd_Lwith "_law_with" = true) (k_Lwith : PySem.W.keepIn K (.ref f_Lwith) = true)
    {od_Lis_part an_Lis_part : Option Addr} {sl_Lis_part : Array (Option Value)} {oc_Lis_part kV_Lis_part dc_Lis_part pm_Lis_part cd_Lis_part ct_Lis_part : Value} {f_Lis_part : Addr}
    (a_Lis_part : PySem.W.nsIn K mainGlobals "_law_is_part" = some (some (.ref f_Lis_part))) (l_Lis_part : K.lookup f_Lis_part = some ⟨oc_Lis_part, od_Lis_part, .func (PySem.W.fnOf "_law_is_part" "_law_is_part" (defArgs s_Lis_part) (defBody s_Lis_part) (defScope s_Lis_part) .none kV_Lis_part dc_Lis_part pm_Lis_part an_Lis_part cd_Lis_part ct_Lis_part), sl_Lis_part⟩) (c_Lis_part : PySem.W.codeIn K cd_Lis_part "_law_is_part" = true) (k_Lis_part : PySem.W.keepIn K (.ref f_Lis_part) = true)
    {od_Lis_cut an_Lis_cut : Option Addr} {sl_Lis_cut : Array (Option Value)} {oc_Lis_cut kV_Lis_cut dc_Lis_cut pm_Lis_cut cd_Lis_cut ct_Lis_cut : Value} {f_Lis_cut : Addr}
    (a_Lis_cut : PySem.W.nsIn K mainGlobals "_law_is_cut" = some (some (.ref f_Lis_cut))) (l_Lis_cut : K.lookup f_Lis_cut = some ⟨oc_Lis_cut, od_Lis_cut, .func (PySem.W.fnOf "_law_is_cut" "_law_is_cut" (defArgs s_Lis_cut) (defBody s_Lis_cut) (defScope s_Lis_cut) .none kV_Lis_cut dc_Lis_cut pm_Lis_cut an_Lis_cut cd_Lis_cut ct_Lis_cut), sl_Lis_cut⟩) (c_Lis_cut : PySem.W.codeIn K cd_Lis_cut "_law_is_cut" = true) (k_Lis_cut : PySem.W.keepIn K (.ref f_Lis_cut) = true)
    {od_Lone an_Lone : Option Addr} {sl_Lone : Array (Option Value)} {oc_Lone kV_Lone dc_Lone pm_Lone cd_Lone ct_Lone : Value} {f_Lone : Addr}
    (a_Lone : PySem.W.nsIn K mainGlobals "_law_one" = some (some (.ref f_Lone))) (l_Lone : K.lookup f_Lone = some ⟨oc_Lone, od_Lone, .func (PySem.W.fnOf "_law_one" "_law_one" (defArgs s_Lone) (defBody s_Lone) (defScope s_Lone) .none kV_Lone dc_Lone pm_Lone an_Lone cd_Lone ct_Lone), sl_Lone⟩) (c_Lone : PySem.W.codeIn K cd_Lone "_law_one" = true) (k_Lone : PySem.W.keepIn K (.ref f_Lone) = true)
    {od_Lscaled an_Lscaled : Option Addr} {sl_Lscaled : Array (Option Value)} {oc_Lscaled kV_Lscaled dc_Lscaled pm_Lscaled cd_Lscaled ct_Lscaled : Value} {f_Lscaled : Addr}
    (a_Lscaled : PySem.W.nsIn K mainGlobals "_law_scaled" = some (some (.ref f_Lscaled))) (l_Lscaled : K.lookup f_Lscaled = some ⟨oc_Lscaled, od_Lscaled, .func (PySem.W.fnOf "_law_scaled" "_law_scaled" (defArgs s_Lscaled) (defBody s_Lscaled) (defScope s_Lscaled) .none kV_Lscaled dc_Lscaled pm_Lscaled an_Lscaled cd_Lscaled ct_Lscaled), sl_Lscaled⟩) (c_Lscaled : PySem.W.codeIn K cd_Lscaled "_law_scaled" = true) (k_Lscaled : PySem.W.keepIn K (.ref f_Lscaled) = true)
    {od_Lgreat_filled an_Lgreat_filled : Option Addr} {sl_Lgreat_filled : Array (Option Value)} {oc_Lgreat_filled kV_Lgreat_filled dc_Lgreat_filled pm_Lgreat_filled cd_Lgreat_filled ct_Lgreat_filled : Value} {f_Lgreat_filled : Addr}
    (a_Lgreat_filled : PySem.W.nsIn K mainGlobals "_law_great_filled" = some (some (.ref f_Lgreat_filled))) (l_Lgreat_filled : K.lookup f_Lgreat_filled = some ⟨oc_Lgreat_filled, od_Lgreat_filled, .func (PySem.W.fnOf "_law_great_filled" "_law_great_filled" (defArgs s_Lgreat_filled) (defBody s_Lgreat_filled) (defScope s_Lgreat_filled) .none kV_Lgreat_filled dc_Lgreat_filled pm_Lgreat_filled an_Lgreat_filled cd_Lgreat_filled ct_Lgreat_filled), sl_Lgreat_filled⟩) (c_Lgreat_filled : PySem.W.codeIn K cd_Lgreat_filled "_law_great_filled" = true) (k_Lgreat_filled : PySem.W.keepIn K (.ref f_Lgreat_filled) = true)
    {od_Linner an_Linner : Option Addr} {sl_Linner : Array (Option Value)} {oc_Linner kV_Linner dc_Linner pm_Linner cd_Linner ct_Linner : Value} {f_Linner : Addr}
    (a_Linner : PySem.W.nsIn K mainGlobals "_law_inner" = some (some (.ref f_Linner))) (l_Linner : K.lookup f_Linner = some ⟨oc_Linner, od_Linner, .func (PySem.W.fnOf "_law_inner" "_law_inner" (defArgs s_Linner) (defBody s_Linner) (defScope s_Linner) .none kV_Linner dc_Linner pm_Linner an_Linner cd_Linner ct_Linner), sl_Linner⟩) (c_Linner : PySem.W.codeIn K cd_Linner "_law_inner" = true) (k_Linner : PySem.W.keepIn K (.ref f_Linner) = true)
    {od_Llines an_Llines : Option Addr} {sl_Llines : Array (Option Value)} {oc_Llines kV_Llines dc_Llines pm_Llines cd_Llines ct_Llines : Value} {f_Llines : Addr}
    (a_Llines : PySem.W.nsIn K mainGlobals "_law_lines" = some (some (.ref f_Llines))) (l_Llines : K.lookup f_Llines = some ⟨oc_Llines, od_Llines, .func (PySem.W.fnOf "_law_lines" "_law_lines" (defArgs s_Llines) (defBody s_Llines) (defScope s_Llines) .none kV_Llines dc_Llines pm_Llines an_Llines cd_Llines ct_Llines), sl_Llines⟩) (c_Llines : PySem.W.codeIn K cd_Llines "_law_lines" = true) (k_Llines : PySem.W.keepIn K (.ref f_Llines) = true)
    {od_Lleast an_Lleast : Option Addr} {sl_Lleast : Array (Option Value)} {oc_Lleast kV_Lleast dc_Lleast pm_Lleast cd_Lleast ct_Lleast : Value} {f_Lleast : Addr}
    (a_Lleast : PySem.W.nsIn K mainGlobals "_law_least" = some (some (.ref f_Lleast))) (l_Lleast : K.lookup f_Lleast = some ⟨oc_Lleast, od_Lleast, .func (PySem.W.fnOf "_law_least" "_law_least" (defArgs s_Lleast) (defBody s_Lleast) (defScope s_Lleast) .none kV_Lleast dc_Lleast pm_Lleast an_Lleast cd_Lleast ct_Lleast), sl_Lleast⟩) (c_Lleast : PySem.W.codeIn K cd_Lleast "_law_least" = true) (k_Lleast : PySem.W.keepIn K (.ref f_Lleast) = true)
    {od_Lmany_cuts an_Lmany_cuts : Option Addr} {sl_Lmany_cuts : Array (Option Value)} {oc_Lmany_cuts kV_Lmany_cuts dc_Lmany_cuts pm_Lmany_cuts cd_Lmany_cuts ct_Lmany_cuts : Value} {f_Lmany_cuts : Addr}
    (a_Lmany_cuts : PySem.W.nsIn K mainGlobals "_law_many_cuts" = some (some (.ref f_Lmany_cuts))) (l_Lmany_cuts : K.lookup f_Lmany_cuts = some ⟨oc_Lmany_cuts, od_Lmany_cuts, .func (PySem.W.fnOf "_law_many_cuts" "_law_many_cuts" (defArgs s_Lmany_cuts) (defBody s_Lmany_cuts) (defScope s_Lmany_cuts) .none kV_Lmany_cuts dc_Lmany_cuts pm_Lmany_cuts an_Lmany_cuts cd_Lmany_cuts ct_Lmany_cuts), sl_Lmany_cuts⟩) (c_Lmany_cuts : PySem.W.codeIn K cd_Lmany_cuts "_law_many_cuts" = true) (k_Lmany_cuts : PySem.W.keepIn K (.ref f_Lmany_cuts) = true)
    {od_law an_law : Option Addr} {sl_law : Array (Option Value)} {oc_law kV_law dc_law pm_law cd_law ct_law : Value} {f_law : Addr}
    (a_law : PySem.W.nsIn K mainGlobals "law" = some (some (.ref f_law))) (l_law : K.lookup f_law = some ⟨oc_law, od_law, .func (PySem.W.fnOf "law" "law" (defArgs s_law) (defBody s_law) (defScope s_law) .none kV_law dc_law pm_law an_law cd_law ct_law), sl_law⟩) (c_law : PySem.W.codeIn K cd_law "law" = true) (k_law : PySem.W.keepIn K (.ref f_law) = true)
    (z_enumerate : PySem.W.nsIn K mainGlobals "enumerate" = some none)
    (z_int : PySem.W.nsIn K mainGlobals "int" = some none)
    (z_len : PySem.W.nsIn K mainGlobals "len" = some none)
    (z_range : PySem.W.nsIn K mainGlobals "range" = some none)
    (z_sum : PySem.W.nsIn K mainGlobals "sum" = some none)
    (z_isinstance : PySem.W.nsIn K mainGlobals "isinstance" = some none)
    (z_bool : PySem.W.nsIn K mainGlobals "bool" = some none)
    (z_sorted : PySem.W.nsIn K mainGlobals "sorted" = some none)
    (z_tuple : PySem.W.nsIn K mainGlobals "tuple" = some none)
    (z_any : PySem.W.nsIn K mainGlobals "any" = some none)
    (z_str : PySem.W.nsIn K mainGlobals "str" = some none)
    (z_abs : PySem.W.nsIn K mainGlobals "abs" = some none)
    (z_list : PySem.W.nsIn K mainGlobals "list" = some none)
    (z_max : PySem.W.nsIn K mainGlobals "max" = some none)
    (z_repr : PySem.W.nsIn K mainGlobals "repr" = some none)
    {t_GAP : Tok} (v_GAP : PySem.W.nsIn K mainGlobals "GAP" = some (some (.str "gap" t_GAP)))
    {t_STEP : Tok} (v_STEP : PySem.W.nsIn K mainGlobals "STEP" = some (some (.str "step" t_STEP)))
    {t_SIDES : Tok} (v_SIDES : PySem.W.nsIn K mainGlobals "SIDES" = some (some (.str "sides" t_SIDES)))
    {t_CUT : Tok} (v_CUT : PySem.W.nsIn K mainGlobals "CUT" = some (some (.str "cut" t_CUT)))
    {C_NoNumber : Addr} (ac_NoNumber : PySem.W.nsIn K mainGlobals "NoNumber" = some (some (.ref C_NoNumber)))
    (cf_NoNumber : CF K "NoNumber" C_NoNumber)
    (xc_NoNumber : ∀ base : Heap, XC1 l.prog w K mg base [("NoNumber", C_NoNumber)] "NoNumber" "number") :
    ∃ fd : FuncData, (∀ (s : Shared) (v : Value), BindsTo s fd ⟨[v], []⟩ [("_law_script", v)]) ∧ ∀ base : Heap, K.In base → base.Ns mainGlobals mg → FnG l.prog w K mg base CX0 8 fa fd ["_law_script"] (liftSp K spLaw) := by
  have e := hfa.symm.trans (PySem.W.mg_of X G a_law)
  cases e
  have F_Cuts_many := fun_mk (st := s_Cuts_many) l_Cuts_many c_Cuts_many k_Cuts_many
  have b_Cuts_many := F_Cuts_many.binds (ps := ["self"]) fun _ _ _ _ _ _ us hl => match us, hl with | [_], _ => rfl
  have F_common := fun_mk (st := s_common) l_common c_common k_common
  have b_common := F_common.binds (ps := ["one", "other"]) fun _ _ _ _ _ _ us hl => match us, hl with | [_, _], _ => rfl
  have F_joint := fun_mk (st := s_joint) l_joint c_joint k_joint
  have b_joint := F_joint.binds (ps := ["one", "other"]) fun _ _ _ _ _ _ us hl => match us, hl with | [_, _], _ => rfl
  have F_inverse := fun_mk (st := s_inverse) l_inverse c_inverse k_inverse
  have b_inverse := F_inverse.binds (ps := ["one", "other"]) fun _ _ _ _ _ _ us hl => match us, hl with | [_, _], _ => rfl
  have F_least_times := fun_mk (st := s_least_times) l_least_times c_least_times k_least_times
  have b_least_times := F_least_times.binds (ps := ["one", "other", "side"]) fun _ _ _ _ _ _ us hl => match us, hl with | [_, _, _], _ => rfl
  have F_rests := fun_mk (st := s_rests) l_rests c_rests k_rests
  have b_rests := F_rests.binds (ps := ["brick", "box"]) fun _ _ _ _ _ _ us hl => match us, hl with | [_, _], _ => rfl
  have F_Cuts_init := fun_mk (st := s_Cuts_init) l_Cuts_init c_Cuts_init k_Cuts_init
  have b_Cuts_init := F_Cuts_init.binds (ps := ["self", "pair", "box", "first", "axis"]) fun _ _ _ _ _ _ us hl => match us, hl with | [_, _, _, _, _], _ => rfl
  have F_all_cuts := fun_mk (st := s_all_cuts) l_all_cuts c_all_cuts k_all_cuts
  have b_all_cuts := F_all_cuts.binds (ps := ["pair", "box"]) fun _ _ _ _ _ _ us hl => match us, hl with | [_, _], _ => rfl
  have F_count_cuts := fun_mk (st := s_count_cuts) l_count_cuts c_count_cuts k_count_cuts
  have b_count_cuts := F_count_cuts.binds (ps := ["pair", "box"]) fun _ _ _ _ _ _ us hl => match us, hl with | [_, _], _ => rfl
  have F_is_integer := fun_mk (st := s_is_integer) l_is_integer c_is_integer k_is_integer
  have b_is_integer := F_is_integer.binds (ps := ["value", "low", "high"]) fun _ _ _ _ _ _ us hl => match us, hl with | [_, _, _], _ => rfl
  have F_Cuts_spot := fun_mk (st := s_Cuts_spot) l_Cuts_spot c_Cuts_spot k_Cuts_spot
  have b_Cuts_spot := F_Cuts_spot.binds (ps := ["self", "number"]) fun _ _ _ _ _ _ us hl => match us, hl with | [_, _], _ => rfl
  have F_cut_at := fun_mk (st := s_cut_at) l_cut_at c_cut_at k_cut_at
  have b_cut_at := F_cut_at.binds (ps := ["pair", "box", "number"]) fun _ _ _ _ _ _ us hl => match us, hl with | [_, _, _], _ => rfl
  have F_with_side := fun_mk (st := s_with_side) l_with_side c_with_side k_with_side
  have b_with_side := F_with_side.binds (ps := ["sides", "axis", "side"]) fun _ _ _ _ _ _ us hl => match us, hl with | [_, _, _], _ => rfl
  have F_is_part := fun_mk (st := s_is_part) l_is_part c_is_part k_is_part
  have b_is_part := F_is_part.binds (ps := ["brick", "box", "axis", "side"]) fun _ _ _ _ _ _ us hl => match us, hl with | [_, _, _, _], _ => rfl
  have F_is_cut := fun_mk (st := s_is_cut) l_is_cut c_is_cut k_is_cut
  have b_is_cut := F_is_cut.binds (ps := ["pair", "box", "first", "axis", "at"]) fun _ _ _ _ _ _ us hl => match us, hl with | [_, _, _, _, _], _ => rfl
  have F_bar_along := fun_mk (st := s_bar_along) l_bar_along c_bar_along k_bar_along
  have b_bar_along := F_bar_along.binds (ps := ["pair", "box", "axis"]) fun _ _ _ _ _ _ us hl => match us, hl with | [_, _, _], _ => rfl
  have F_crossing := fun_mk (st := s_crossing) l_crossing c_crossing k_crossing
  have b_crossing := F_crossing.binds (ps := ["pair", "box"]) fun _ _ _ _ _ _ us hl => match us, hl with | [_, _], _ => rfl
  have F_bar_papers := fun_mk (st := s_bar_papers) l_bar_papers c_bar_papers k_bar_papers
  have b_bar_papers := F_bar_papers.binds (ps := ["pair", "box"]) fun _ _ _ _ _ _ us hl => match us, hl with | [_, _], _ => rfl
  have F_paper_holds := fun_mk (st := s_paper_holds) l_paper_holds c_paper_holds k_paper_holds
  have b_paper_holds := F_paper_holds.binds (ps := ["pair", "box", "value"]) fun _ _ _ _ _ _ us hl => match us, hl with | [_, _, _], _ => rfl
  have F_Cuts_rank := fun_mk (st := s_Cuts_rank) l_Cuts_rank c_Cuts_rank k_Cuts_rank
  have b_Cuts_rank := F_Cuts_rank.binds (ps := ["self", "at"]) fun _ _ _ _ _ _ us hl => match us, hl with | [_, _], _ => rfl
  have F_cut_number := fun_mk (st := s_cut_number) l_cut_number c_cut_number k_cut_number
  have b_cut_number := F_cut_number.binds (ps := ["pair", "box", "value"]) fun _ _ _ _ _ _ us hl => match us, hl with | [_, _, _], _ => rfl
  have F_Ldeck := fun_mk (st := s_Ldeck) l_Ldeck c_Ldeck k_Ldeck
  have b_Ldeck := F_Ldeck.binds (ps := ["_law_script"]) fun _ _ _ _ _ _ us hl => match us, hl with | [_], _ => rfl
  have F_Ldraw := fun_mk (st := s_Ldraw) l_Ldraw c_Ldraw k_Ldraw
  have b_Ldraw := F_Ldraw.binds (ps := ["_law_deck_here", "_law_many"]) fun _ _ _ _ _ _ us hl => match us, hl with | [_, _], _ => rfl
  have F_Lwhole := fun_mk (st := s_Lwhole) l_Lwhole c_Lwhole k_Lwhole
  have b_Lwhole := F_Lwhole.binds (ps := ["_law_value", "_law_least_here", "_law_most"]) fun _ _ _ _ _ _ us hl => match us, hl with | [_, _, _], _ => rfl
  have F_Ldivisor := fun_mk (st := s_Ldivisor) l_Ldivisor c_Ldivisor k_Ldivisor
  have b_Ldivisor := F_Ldivisor.binds (ps := ["_law_one_here", "_law_other"]) fun _ _ _ _ _ _ us hl => match us, hl with | [_, _], _ => rfl
  have F_Llcm := fun_mk (st := s_Llcm) l_Llcm c_Llcm k_Llcm
  have b_Llcm := F_Llcm.binds (ps := ["_law_one_here", "_law_other"]) fun _ _ _ _ _ _ us hl => match us, hl with | [_, _], _ => rfl
  have F_Lrests := fun_mk (st := s_Lrests) l_Lrests c_Lrests k_Lrests
  have b_Lrests := F_Lrests.binds (ps := ["_law_brick", "_law_box"]) fun _ _ _ _ _ _ us hl => match us, hl with | [_, _], _ => rfl
  have F_Lwith := fun_mk (st := s_Lwith) l_Lwith c_Lwith k_Lwith
  have b_Lwith := F_Lwith.binds (ps := ["_law_sides", "_law_axis", "_law_side"]) fun _ _ _ _ _ _ us hl => match us, hl with | [_, _, _], _ => rfl
  have F_Lis_part := fun_mk (st := s_Lis_part) l_Lis_part c_Lis_part k_Lis_part
  have b_Lis_part := F_Lis_part.binds (ps := ["_law_brick", "_law_box", "_law_axis", "_law_side"]) fun _ _ _ _ _ _ us hl => match us, hl with | [_, _, _, _], _ => rfl
  have F_Lis_cut := fun_mk (st := s_Lis_cut) l_Lis_cut c_Lis_cut k_Lis_cut
  have b_Lis_cut := F_Lis_cut.binds (ps := ["_law_pair", "_law_box", "_law_value"]) fun _ _ _ _ _ _ us hl => match us, hl with | [_, _, _], _ => rfl
  have F_Lone := fun_mk (st := s_Lone) l_Lone c_Lone k_Lone
  have b_Lone := F_Lone.binds (ps := ["_law_deck_here", "_law_items"]) fun _ _ _ _ _ _ us hl => match us, hl with | [_, _], _ => rfl
  have F_Lscaled := fun_mk (st := s_Lscaled) l_Lscaled c_Lscaled k_Lscaled
  have b_Lscaled := F_Lscaled.binds (ps := ["_law_deck_here", "_law_axes"]) fun _ _ _ _ _ _ us hl => match us, hl with | [_, _], _ => rfl
  have F_Lgreat_filled := fun_mk (st := s_Lgreat_filled) l_Lgreat_filled c_Lgreat_filled k_Lgreat_filled
  have b_Lgreat_filled := F_Lgreat_filled.binds (ps := ["_law_deck_here", "_law_pair"]) fun _ _ _ _ _ _ us hl => match us, hl with | [_, _], _ => rfl
  have F_Linner := fun_mk (st := s_Linner) l_Linner c_Linner k_Linner
  have b_Linner := F_Linner.binds (ps := ["_law_one_here", "_law_other", "_law_side"]) fun _ _ _ _ _ _ us hl => match us, hl with | [_, _, _], _ => rfl
  have F_Llines := fun_mk (st := s_Llines) l_Llines c_Llines k_Llines
  have b_Llines := F_Llines.binds (ps := ["_law_box"]) fun _ _ _ _ _ _ us hl => match us, hl with | [_], _ => rfl
  have F_Lleast := fun_mk (st := s_Lleast) l_Lleast c_Lleast k_Lleast
  have b_Lleast := F_Lleast.binds (ps := ["_law_one_here", "_law_other", "_law_side"]) fun _ _ _ _ _ _ us hl => match us, hl with | [_, _, _], _ => rfl
  have F_Lmany_cuts := fun_mk (st := s_Lmany_cuts) l_Lmany_cuts c_Lmany_cuts k_Lmany_cuts
  have b_Lmany_cuts := F_Lmany_cuts.binds (ps := ["_law_pair", "_law_box", "_law_first", "_law_axis"]) fun _ _ _ _ _ _ us hl => match us, hl with | [_, _, _, _], _ => rfl
  have F_law := fun_mk (st := s_law) l_law c_law k_law
  refine ⟨PySem.W.fnOf "law" "law" (defArgs s_law) (defBody s_law) (defScope s_law) .none kV_law dc_law pm_law an_law cd_law ct_law, fun s v => .of_eq rfl, fun base _ _ => ?_⟩
  have O_Cuts_many := ok_Cuts_many (P := l.prog) (w := w) (base := base) (mg := mg) F_Cuts_many ob_Cuts na_Cuts_at_begin na_Cuts_amid na_Cuts_at_end
  have O_common := ok_common (P := l.prog) (w := w) (base := base) (mg := mg) F_common
  have O_inverse := ok_inverse (P := l.prog) (w := w) (base := base) (mg := mg) F_inverse
  have O_rests := ok_rests (P := l.prog) (w := w) (base := base) (mg := mg) F_rests (PySem.W.mg_none_of X G z_enumerate)
  have O_is_integer := ok_is_integer (P := l.prog) (w := w) (base := base) (mg := mg) F_is_integer (PySem.W.mg_none_of X G z_isinstance) (PySem.W.mg_none_of X G z_bool) (PySem.W.mg_none_of X G z_int)
  have O_Cuts_spot := ok_Cuts_spot (P := l.prog) (w := w) (base := base) (mg := mg) F_Cuts_spot ob_Cuts na_Cuts_amid na_Cuts_begin na_Cuts_step na_Cuts_whole na_Cuts_at_begin
  have O_with_side := ok_with_side (P := l.prog) (w := w) (base := base) (mg := mg) F_with_side
  have O_Cuts_rank := ok_Cuts_rank (P := l.prog) (w := w) (base := base) (mg := mg) F_Cuts_rank ob_Cuts na_Cuts_at_begin na_Cuts_whole na_Cuts_amid na_Cuts_begin na_Cuts_step
  have O_Ldeck := ok_Ldeck (P := l.prog) (w := w) (base := base) (mg := mg) F_Ldeck (PySem.W.mg_none_of X G z_abs) (PySem.W.mg_none_of X G z_len)
  have O_Ldraw := ok_Ldraw (P := l.prog) (w := w) (base := base) (mg := mg) F_Ldraw (PySem.W.mg_none_of X G z_int) (PySem.W.mg_none_of X G z_len)
  have O_Lwhole := ok_Lwhole (P := l.prog) (w := w) (base := base) (mg := mg) F_Lwhole (PySem.W.mg_none_of X G z_isinstance) (PySem.W.mg_none_of X G z_bool) (PySem.W.mg_none_of X G z_int)
  have O_Ldivisor := ok_Ldivisor (P := l.prog) (w := w) (base := base) (mg := mg) F_Ldivisor
  have O_Lrests := ok_Lrests (P := l.prog) (w := w) (base := base) (mg := mg) F_Lrests (PySem.W.mg_none_of X G z_len) (PySem.W.mg_none_of X G z_range) (PySem.W.mg_none_of X G z_int)
  have O_Lwith := ok_Lwith (P := l.prog) (w := w) (base := base) (mg := mg) F_Lwith
  have O_Linner := ok_Linner (P := l.prog) (w := w) (base := base) (mg := mg) F_Linner (PySem.W.mg_none_of X G z_range) (PySem.W.mg_none_of X G z_int)
  have O_Llines := ok_Llines (P := l.prog) (w := w) (base := base) (mg := mg) F_Llines (PySem.W.mg_none_of X G z_len) (PySem.W.mg_none_of X G z_range)
  have O_joint := ok_joint (P := l.prog) (w := w) (base := base) (mg := mg) F_joint O_common (PySem.W.mg_of X G a_common) k_common b_common
  have O_least_times := ok_least_times (P := l.prog) (w := w) (base := base) (mg := mg) F_least_times O_inverse (PySem.W.mg_of X G a_inverse) k_inverse b_inverse O_common (PySem.W.mg_of X G a_common) k_common b_common
  have O_is_part := ok_is_part (P := l.prog) (w := w) (base := base) (mg := mg) F_is_part O_rests (PySem.W.mg_of X G a_rests) k_rests b_rests O_with_side (PySem.W.mg_of X G a_with_side) k_with_side b_with_side
  have O_crossing := ok_crossing (P := l.prog) (w := w) (base := base) (mg := mg) F_crossing (PySem.W.mg_of X G v_SIDES) O_rests (PySem.W.mg_of X G a_rests) k_rests b_rests
  have O_Llcm := ok_Llcm (P := l.prog) (w := w) (base := base) (mg := mg) F_Llcm O_Ldivisor (PySem.W.mg_of X G a_Ldivisor) k_Ldivisor b_Ldivisor
  have O_Lis_part := ok_Lis_part (P := l.prog) (w := w) (base := base) (mg := mg) F_Lis_part O_Lrests (PySem.W.mg_of X G a_Lrests) k_Lrests b_Lrests O_Lwith (PySem.W.mg_of X G a_Lwith) k_Lwith b_Lwith
  have O_Lone := ok_Lone (P := l.prog) (w := w) (base := base) (mg := mg) F_Lone (PySem.W.mg_none_of X G z_len) O_Ldraw (PySem.W.mg_of X G a_Ldraw) k_Ldraw b_Ldraw
  have O_Lleast := ok_Lleast (P := l.prog) (w := w) (base := base) (mg := mg) F_Lleast (PySem.W.mg_none_of X G z_int) O_Ldivisor (PySem.W.mg_of X G a_Ldivisor) k_Ldivisor b_Ldivisor
  have O_Cuts_init := ok_Cuts_init (P := l.prog) (w := w) (base := base) (mg := mg) F_Cuts_init ob_Cuts na_Cuts_step na_Cuts_amid na_Cuts_begin na_Cuts_at_end na_Cuts_at_begin na_Cuts_whole (PySem.W.mg_none_of X G z_int) O_least_times (PySem.W.mg_of X G a_least_times) k_least_times b_least_times O_rests (PySem.W.mg_of X G a_rests) k_rests b_rests O_joint (PySem.W.mg_of X G a_joint) k_joint b_joint
  have O_is_cut := ok_is_cut (P := l.prog) (w := w) (base := base) (mg := mg) F_is_cut O_is_part (PySem.W.mg_of X G a_is_part) k_is_part b_is_part
  have O_bar_along := ok_bar_along (P := l.prog) (w := w) (base := base) (mg := mg) F_bar_along (PySem.W.mg_of X G v_GAP) (PySem.W.mg_of X G v_STEP) O_least_times (PySem.W.mg_of X G a_least_times) k_least_times b_least_times
  have O_Lis_cut := ok_Lis_cut (P := l.prog) (w := w) (base := base) (mg := mg) F_Lis_cut O_Lis_part (PySem.W.mg_of X G a_Lis_part) k_Lis_part b_Lis_part
  have O_Lscaled := ok_Lscaled (P := l.prog) (w := w) (base := base) (mg := mg) F_Lscaled (PySem.W.mg_none_of X G z_range) (PySem.W.mg_none_of X G z_tuple) O_Lone (PySem.W.mg_of X G a_Lone) k_Lone b_Lone O_Ldraw (PySem.W.mg_of X G a_Ldraw) k_Ldraw b_Ldraw
  have O_Lgreat_filled := ok_Lgreat_filled (P := l.prog) (w := w) (base := base) (mg := mg) F_Lgreat_filled (PySem.W.mg_none_of X G z_tuple) (PySem.W.mg_none_of X G z_len) (PySem.W.mg_none_of X G z_range) (PySem.W.mg_none_of X G z_list) O_Ldraw (PySem.W.mg_of X G a_Ldraw) k_Ldraw b_Ldraw O_Llcm (PySem.W.mg_of X G a_Llcm) k_Llcm b_Llcm O_Lone (PySem.W.mg_of X G a_Lone) k_Lone b_Lone
  have O_Lmany_cuts := ok_Lmany_cuts (P := l.prog) (w := w) (base := base) (mg := mg) F_Lmany_cuts (PySem.W.mg_none_of X G z_max) (PySem.W.mg_none_of X G z_int) O_Lleast (PySem.W.mg_of X G a_Lleast) k_Lleast b_Lleast O_Llcm (PySem.W.mg_of X G a_Llcm) k_Llcm b_Llcm O_Lrests (PySem.W.mg_of X G a_Lrests) k_Lrests b_Lrests
  have O_bar_papers := ok_bar_papers (P := l.prog) (w := w) (base := base) (mg := mg) F_bar_papers (PySem.W.mg_none_of X G z_sorted) (PySem.W.mg_none_of X G z_tuple) (PySem.W.mg_none_of X G z_len) (PySem.W.mg_none_of X G z_range) O_bar_along (PySem.W.mg_of X G a_bar_along) k_bar_along b_bar_along O_crossing (PySem.W.mg_of X G a_crossing) k_crossing b_crossing
  have O_all_cuts := ok_all_cuts (P := l.prog) (w := w) (base := base) (mg := mg) F_all_cuts ob_Cuts (PySem.W.mg_none_of X G z_len) (PySem.W.mg_none_of X G z_range) O_Cuts_init ⟨mm_Cuts, a_Cuts_init, i_Cuts_init, mp_Cuts⟩ (PySem.W.mg_of X G ac_Cuts) b_Cuts_init
  have O_paper_holds := ok_paper_holds (P := l.prog) (w := w) (base := base) (mg := mg) F_paper_holds (PySem.W.mg_none_of X G z_len) (PySem.W.mg_none_of X G z_isinstance) (PySem.W.mg_none_of X G z_bool) (PySem.W.mg_none_of X G z_any) (PySem.W.mg_none_of X G z_str) (PySem.W.mg_none_of X G z_tuple) (PySem.W.mg_of X G v_CUT) O_is_cut (PySem.W.mg_of X G a_is_cut) k_is_cut b_is_cut O_is_integer (PySem.W.mg_of X G a_is_integer) k_is_integer b_is_integer O_bar_papers (PySem.W.mg_of X G a_bar_papers) k_bar_papers b_bar_papers
  have O_count_cuts := ok_count_cuts (P := l.prog) (w := w) (base := base) (mg := mg) F_count_cuts ob_Cuts (PySem.W.mg_none_of X G z_sum) O_all_cuts (PySem.W.mg_of X G a_all_cuts) k_all_cuts b_all_cuts O_Cuts_many ⟨a_Cuts_many, i_Cuts_many, k_Cuts_many⟩ b_Cuts_many
  have O_cut_number := ok_cut_number (P := l.prog) (w := w) (base := base) (mg := mg) F_cut_number ob_Cuts (PySem.W.mg_none_of X G z_len) (PySem.W.mg_none_of X G z_isinstance) (PySem.W.mg_none_of X G z_tuple) (PySem.W.mg_of X G v_CUT) O_all_cuts (PySem.W.mg_of X G a_all_cuts) k_all_cuts b_all_cuts O_Cuts_many ⟨a_Cuts_many, i_Cuts_many, k_Cuts_many⟩ b_Cuts_many O_Cuts_rank ⟨a_Cuts_rank, i_Cuts_rank, k_Cuts_rank⟩ b_Cuts_rank O_paper_holds (PySem.W.mg_of X G a_paper_holds) k_paper_holds b_paper_holds
  have O_cut_at := ok_cut_at (TL := [("NoNumber", C_NoNumber)]) (P := l.prog) (w := w) (base := base) (mg := mg) F_cut_at ob_Cuts O_all_cuts (PySem.W.mg_of X G a_all_cuts) k_all_cuts b_all_cuts O_Cuts_spot ⟨a_Cuts_spot, i_Cuts_spot, k_Cuts_spot⟩ b_Cuts_spot O_Cuts_many ⟨a_Cuts_many, i_Cuts_many, k_Cuts_many⟩ b_Cuts_many O_is_integer (PySem.W.mg_of X G a_is_integer) k_is_integer b_is_integer O_count_cuts (PySem.W.mg_of X G a_count_cuts) k_count_cuts b_count_cuts (xc_NoNumber base)
  have O_law := ok_law (TL := [("NoNumber", C_NoNumber)]) (P := l.prog) (w := w) (base := base) (mg := mg) F_law (PySem.W.mg_none_of X G z_len) (PySem.W.mg_none_of X G z_repr) (PySem.W.mg_none_of X G z_range) (PySem.W.mg_none_of X G z_sorted) (PySem.W.mg_none_of X G z_int) (PySem.W.mg_none_of X G z_sum) O_count_cuts (PySem.W.mg_of X G a_count_cuts) k_count_cuts b_count_cuts O_cut_at (PySem.W.mg_of X G a_cut_at) k_cut_at b_cut_at O_Linner (PySem.W.mg_of X G a_Linner) k_Linner b_Linner O_Ldraw (PySem.W.mg_of X G a_Ldraw) k_Ldraw b_Ldraw O_Llcm (PySem.W.mg_of X G a_Llcm) k_Llcm b_Llcm O_cut_number (PySem.W.mg_of X G a_cut_number) k_cut_number b_cut_number O_Lis_cut (PySem.W.mg_of X G a_Lis_cut) k_Lis_cut b_Lis_cut O_Lwhole (PySem.W.mg_of X G a_Lwhole) k_Lwhole b_Lwhole O_Llines (PySem.W.mg_of X G a_Llines) k_Llines b_Llines O_Lmany_cuts (PySem.W.mg_of X G a_Lmany_cuts) k_Lmany_cuts b_Lmany_cuts O_Lgreat_filled (PySem.W.mg_of X G a_Lgreat_filled) k_Lgreat_filled b_Lgreat_filled O_Lscaled (PySem.W.mg_of X G a_Lscaled) k_Lscaled b_Lscaled O_Ldeck (PySem.W.mg_of X G a_Ldeck) k_Ldeck b_Ldeck
  exact O_law
end K17
open PySem PySem.W PyProof.Rows
set_option maxHeartbeats 0 in
theorem PySem.Challenge.cw_twobricks_k17_cuts_of_great_boxes_holds : PySem.Challenge.rw_twobricks_k17_cuts_of_great_boxes.Holds := by
  w_on; o_law; k_head; (case hw => w_witness2)
  k_fill
  refine DL.walkG (l := PySem.Challenge.rw_twobricks_k17_cuts_of_great_boxes) (n := 63) (k := 8) (x := "_law_script") (sp := fun K => DL.liftSp K DL.spLaw) rfl (by decide) rfl ⟨rfl, by decide, by decide⟩ (fun w h Y => PySem.W.kIn_of Y) ?F (fun _ _ a ns hl _ hS => DL.law_start hS)
  case F =>
    intro w mg fa h KX G hmg
    refine' K17.all_mk KX G hmg ?ac_Cuts ?ob_Cuts ?mm_Cuts ?mp_Cuts ?na_Cuts_at_begin ?na_Cuts_amid ?na_Cuts_at_end ?na_Cuts_step ?na_Cuts_begin ?na_Cuts_whole ?a_Cuts_many ?i_Cuts_many ?l_Cuts_many ?c_Cuts_many ?k_Cuts_many ?a_common ?l_common ?c_common ?k_common ?a_joint ?l_joint ?c_joint ?k_joint ?a_inverse ?l_inverse ?c_inverse ?k_inverse ?a_least_times ?l_least_times ?c_least_times ?k_least_times ?a_rests ?l_rests ?c_rests ?k_rests ?a_Cuts_init ?i_Cuts_init ?l_Cuts_init ?c_Cuts_init ?k_Cuts_init ?a_all_cuts ?l_all_cuts ?c_all_cuts ?k_all_cuts ?a_count_cuts ?l_count_cuts ?c_count_cuts ?k_count_cuts ?a_is_integer ?l_is_integer ?c_is_integer ?k_is_integer ?a_Cuts_spot ?i_Cuts_spot ?l_Cuts_spot ?c_Cuts_spot ?k_Cuts_spot ?a_cut_at ?l_cut_at ?c_cut_at ?k_cut_at ?a_with_side ?l_with_side ?c_with_side ?k_with_side ?a_is_part ?l_is_part ?c_is_part ?k_is_part ?a_is_cut ?l_is_cut ?c_is_cut ?k_is_cut ?a_bar_along ?l_bar_along ?c_bar_along ?k_bar_along ?a_crossing ?l_crossing ?c_crossing ?k_crossing ?a_bar_papers ?l_bar_papers ?c_bar_papers ?k_bar_papers ?a_paper_holds ?l_paper_holds ?c_paper_holds ?k_paper_holds ?a_Cuts_rank ?i_Cuts_rank ?l_Cuts_rank ?c_Cuts_rank ?k_Cuts_rank ?a_cut_number ?l_cut_number ?c_cut_number ?k_cut_number ?a_Ldeck ?l_Ldeck ?c_Ldeck ?k_Ldeck ?a_Ldraw ?l_Ldraw ?c_Ldraw ?k_Ldraw ?a_Lwhole ?l_Lwhole ?c_Lwhole ?k_Lwhole ?a_Ldivisor ?l_Ldivisor ?c_Ldivisor ?k_Ldivisor ?a_Llcm ?l_Llcm ?c_Llcm ?k_Llcm ?a_Lrests ?l_Lrests ?c_Lrests ?k_Lrests ?a_Lwith ?l_Lwith ?c_Lwith ?k_Lwith ?a_Lis_part ?l_Lis_part ?c_Lis_part ?k_Lis_part ?a_Lis_cut ?l_Lis_cut ?c_Lis_cut ?k_Lis_cut ?a_Lone ?l_Lone ?c_Lone ?k_Lone ?a_Lscaled ?l_Lscaled ?c_Lscaled ?k_Lscaled ?a_Lgreat_filled ?l_Lgreat_filled ?c_Lgreat_filled ?k_Lgreat_filled ?a_Linner ?l_Linner ?c_Linner ?k_Linner ?a_Llines ?l_Llines ?c_Llines ?k_Llines ?a_Lleast ?l_Lleast ?c_Lleast ?k_Lleast ?a_Lmany_cuts ?l_Lmany_cuts ?c_Lmany_cuts ?k_Lmany_cuts ?a_law ?l_law ?c_law ?k_law ?z_enumerate ?z_int ?z_len ?z_range ?z_sum ?z_isinstance ?z_bool ?z_sorted ?z_tuple ?z_any ?z_str ?z_abs ?z_list ?z_max ?z_repr ?v_GAP ?v_STEP ?v_SIDES ?v_CUT ?ac_NoNumber ?cf_NoNumber ?xc_NoNumber
    (case ac_Cuts => k_is); (case ob_Cuts => (refine' DL.objK_mk ?oCuts_at ?oCuts_k1 ?oCuts_k2 ?oCuts_k3 ?oCuts_k4 ?oCuts_k5 ?oCuts_k6 ?oCuts_pg ?oCuts_hd ?oCuts_po ?oCuts_sa ?oCuts_ha ?oCuts_hn ?oCuts_tk ?oCuts_mr; (case oCuts_at => k_is); (case oCuts_k1 => first | rfl | kernel_rfl); (case oCuts_k2 => first | rfl | kernel_rfl); (case oCuts_k3 => first | rfl | kernel_rfl); (case oCuts_k4 => first | rfl | kernel_rfl); (case oCuts_k5 => first | rfl | kernel_rfl); (case oCuts_k6 => first | rfl | kernel_rfl); (case oCuts_pg => k_is); (case oCuts_hd => k_is); (case oCuts_po => k_is); (case oCuts_sa => k_is); (case oCuts_ha => k_is); (case oCuts_hn => k_is); (case oCuts_tk => k_is); (case oCuts_mr => k_is))); (case mm_Cuts => k_is); (case mp_Cuts => k_is); (case na_Cuts_at_begin => first | rfl | kernel_rfl); (case na_Cuts_amid => first | rfl | kernel_rfl); (case na_Cuts_at_end => first | rfl | kernel_rfl); (case na_Cuts_step => first | rfl | kernel_rfl); (case na_Cuts_begin => first | rfl | kernel_rfl); (case na_Cuts_whole => first | rfl | kernel_rfl); (case a_Cuts_many => first | rfl | kernel_rfl); (case i_Cuts_many => first | rfl | kernel_rfl); (case l_Cuts_many => k_is); (case c_Cuts_many => k_is); (case k_Cuts_many => k_is); (case a_common => k_is); (case l_common => k_is); (case c_common => k_is); (case k_common => k_is); (case a_joint => k_is); (case l_joint => k_is); (case c_joint => k_is); (case k_joint => k_is); (case a_inverse => k_is); (case l_inverse => k_is); (case c_inverse => k_is); (case k_inverse => k_is); (case a_least_times => k_is); (case l_least_times => k_is); (case c_least_times => k_is); (case k_least_times => k_is); (case a_rests => k_is); (case l_rests => k_is); (case c_rests => k_is); (case k_rests => k_is); (case a_Cuts_init => first | rfl | kernel_rfl); (case i_Cuts_init => first | rfl | kernel_rfl); (case l_Cuts_init => k_is); (case c_Cuts_init => k_is); (case k_Cuts_init => k_is); (case a_all_cuts => k_is); (case l_all_cuts => k_is); (case c_all_cuts => k_is); (case k_all_cuts => k_is); (case a_count_cuts => k_is); (case l_count_cuts => k_is); (case c_count_cuts => k_is); (case k_count_cuts => k_is); (case a_is_integer => k_is); (case l_is_integer => k_is); (case c_is_integer => k_is); (case k_is_integer => k_is); (case a_Cuts_spot => first | rfl | kernel_rfl); (case i_Cuts_spot => first | rfl | kernel_rfl); (case l_Cuts_spot => k_is); (case c_Cuts_spot => k_is); (case k_Cuts_spot => k_is); (case a_cut_at => k_is); (case l_cut_at => k_is); (case c_cut_at => k_is); (case k_cut_at => k_is); (case a_with_side => k_is); (case l_with_side => k_is); (case c_with_side => k_is); (case k_with_side => k_is); (case a_is_part => k_is); (case l_is_part => k_is); (case c_is_part => k_is); (case k_is_part => k_is); (case a_is_cut => k_is); (case l_is_cut => k_is); (case c_is_cut => k_is); (case k_is_cut => k_is); (case a_bar_along => k_is); (case l_bar_along => k_is); (case c_bar_along => k_is); (case k_bar_along => k_is); (case a_crossing => k_is); (case l_crossing => k_is); (case c_crossing => k_is); (case k_crossing => k_is); (case a_bar_papers => k_is); (case l_bar_papers => k_is); (case c_bar_papers => k_is); (case k_bar_papers => k_is); (case a_paper_holds => k_is); (case l_paper_holds => k_is); (case c_paper_holds => k_is); (case k_paper_holds => k_is); (case a_Cuts_rank => first | rfl | kernel_rfl); (case i_Cuts_rank => first | rfl | kernel_rfl); (case l_Cuts_rank => k_is); (case c_Cuts_rank => k_is); (case k_Cuts_rank => k_is); (case a_cut_number => k_is); (case l_cut_number => k_is); (case c_cut_number => k_is); (case k_cut_number => k_is); (case a_Ldeck => k_is); (case l_Ldeck => k_is); (case c_Ldeck => k_is); (case k_Ldeck => k_is); (case a_Ldraw => k_is); (case l_Ldraw => k_is); (case c_Ldraw => k_is); (case k_Ldraw => k_is); (case a_Lwhole => k_is); (case l_Lwhole => k_is); (case c_Lwhole => k_is); (case k_Lwhole => k_is); (case a_Ldivisor => k_is); (case l_Ldivisor => k_is); (case c_Ldivisor => k_is); (case k_Ldivisor => k_is); (case a_Llcm => k_is); (case l_Llcm => k_is); (case c_Llcm => k_is); (case k_Llcm => k_is); (case a_Lrests => k_is); (case l_Lrests => k_is); (case c_Lrests => k_is); (case k_Lrests => k_is); (case a_Lwith => k_is); (case l_Lwith => k_is); (case c_Lwith => k_is); (case k_Lwith => k_is); (case a_Lis_part => k_is); (case l_Lis_part => k_is); (case c_Lis_part => k_is); (case k_Lis_part => k_is); (case a_Lis_cut => k_is); (case l_Lis_cut => k_is); (case c_Lis_cut => k_is); (case k_Lis_cut => k_is); (case a_Lone => k_is); (case l_Lone => k_is); (case c_Lone => k_is); (case k_Lone => k_is); (case a_Lscaled => k_is); (case l_Lscaled => k_is); (case c_Lscaled => k_is); (case k_Lscaled => k_is); (case a_Lgreat_filled => k_is); (case l_Lgreat_filled => k_is); (case c_Lgreat_filled => k_is); (case k_Lgreat_filled => k_is); (case a_Linner => k_is); (case l_Linner => k_is); (case c_Linner => k_is); (case k_Linner => k_is); (case a_Llines => k_is); (case l_Llines => k_is); (case c_Llines => k_is); (case k_Llines => k_is); (case a_Lleast => k_is); (case l_Lleast => k_is); (case c_Lleast => k_is); (case k_Lleast => k_is); (case a_Lmany_cuts => k_is); (case l_Lmany_cuts => k_is); (case c_Lmany_cuts => k_is); (case k_Lmany_cuts => k_is); (case a_law => k_is); (case l_law => k_is); (case c_law => k_is); (case k_law => k_is); (case z_enumerate => k_is); (case z_int => k_is); (case z_len => k_is); (case z_range => k_is); (case z_sum => k_is); (case z_isinstance => k_is); (case z_bool => k_is); (case z_sorted => k_is); (case z_tuple => k_is); (case z_any => k_is); (case z_str => k_is); (case z_abs => k_is); (case z_list => k_is); (case z_max => k_is); (case z_repr => k_is); (case v_GAP => k_is); (case v_STEP => k_is); (case v_SIDES => k_is); (case v_CUT => k_is); (case ac_NoNumber => k_is); (case cf_NoNumber => (refine' DL.cf_mk ?uNoNumber_lc ?uNoNumber_bmv ?uNoNumber_c ?uNoNumber_cn ?uNoNumber_sa ?uNoNumber_exC ?uNoNumber_tyC ?uNoNumber_kC ?uNoNumber_ga ?uNoNumber_gg ?uNoNumber_hd ?uNoNumber_ha ?uNoNumber_hn ?uNoNumber_ht ?uNoNumber_hm; (case uNoNumber_lc => k_is); (case uNoNumber_bmv => first | rfl | kernel_rfl); (case uNoNumber_c => k_is); (case uNoNumber_cn => rfl); (case uNoNumber_sa => k_is); (case uNoNumber_exC => k_is); (case uNoNumber_tyC => k_is); (case uNoNumber_kC => k_is); (case uNoNumber_ga => k_is); (case uNoNumber_gg => k_is); (case uNoNumber_hd => k_is); (case uNoNumber_ha => k_is); (case uNoNumber_hn => k_is); (case uNoNumber_ht => k_is); (case uNoNumber_hm => k_is))); (case xc_NoNumber => (intro base; refine' DL.xc1_mk KX G ?vNoNumber_hT ?vNoNumber_F ?vNoNumber_a ?vNoNumber_c ?vNoNumber_sub ?vNoNumber_opq ?vNoNumber_ini ?vNoNumber_ve ?vNoNumber_iC ?vNoNumber_tI ?vNoNumber_lk ?vNoNumber_hcd ?vNoNumber_hcode ?vNoNumber_hvs ?vNoNumber_hfile ?vNoNumber_hcell ?vNoNumber_hsm ?vNoNumber_S ?vNoNumber_hp ?vNoNumber_har ?vNoNumber_hnd ?vNoNumber_hks ?vNoNumber_htop ?vNoNumber_hst ?vNoNumber_hev ?vNoNumber_hsw ?vNoNumber_hin ?vNoNumber_hsw2 ?vNoNumber_hf ?vNoNumber_hdx ?vNoNumber_hdc ?vNoNumber_hb; (case vNoNumber_a => k_is); (case vNoNumber_hT => simp); (case vNoNumber_F => (refine' DL.cf_mk ?vNoNumber_w0_lc ?vNoNumber_w0_bmv ?vNoNumber_w0_c ?vNoNumber_w0_cn ?vNoNumber_w0_sa ?vNoNumber_w0_exC ?vNoNumber_w0_tyC ?vNoNumber_w0_kC ?vNoNumber_w0_ga ?vNoNumber_w0_gg ?vNoNumber_w0_hd ?vNoNumber_w0_ha ?vNoNumber_w0_hn ?vNoNumber_w0_ht ?vNoNumber_w0_hm; (case vNoNumber_w0_lc => k_is); (case vNoNumber_w0_bmv => first | rfl | kernel_rfl); (case vNoNumber_w0_c => k_is); (case vNoNumber_w0_cn => rfl); (case vNoNumber_w0_sa => k_is); (case vNoNumber_w0_exC => k_is); (case vNoNumber_w0_tyC => k_is); (case vNoNumber_w0_kC => k_is); (case vNoNumber_w0_ga => k_is); (case vNoNumber_w0_gg => k_is); (case vNoNumber_w0_hd => k_is); (case vNoNumber_w0_ha => k_is); (case vNoNumber_w0_hn => k_is); (case vNoNumber_w0_ht => k_is); (case vNoNumber_w0_hm => k_is))); (case vNoNumber_c => k_is); (case vNoNumber_sub => k_is); (case vNoNumber_opq => k_is); (case vNoNumber_ini => first | rfl | kernel_rfl); (case vNoNumber_ve => k_is); (case vNoNumber_iC => k_is); (case vNoNumber_tI => k_is); (case vNoNumber_lk => k_is); (case vNoNumber_hcd => k_is); (case vNoNumber_hcode => k_is); (case vNoNumber_hvs => rfl); (case vNoNumber_hfile => first | rfl | kernel_rfl); (case vNoNumber_hcell => k_is); (case vNoNumber_hsm => k_is); (case vNoNumber_S => decide +kernel); (case vNoNumber_hp => rfl); (case vNoNumber_har => rfl); (case vNoNumber_hnd => decide); (case vNoNumber_hks => rfl); (case vNoNumber_htop => first | rfl | kernel_rfl); (case vNoNumber_hst => intro L; rfl); (case vNoNumber_hev => intro L; exact ⟨_, rfl⟩); (case vNoNumber_hsw => intro L; rfl); (case vNoNumber_hin => intro L; rfl); (case vNoNumber_hsw2 => intro L; rfl); (case vNoNumber_hf => k_is); (case vNoNumber_hdx => decide); (case vNoNumber_hdc => decide); (case vNoNumber_hb => intro us hl; exact match us, hl with | [_, _], _ => rfl)))

