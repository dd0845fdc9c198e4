import PyProof.Rows.All
import Wide.All
import OpenK.AllK
import Wide.FinOn
import HandS.ForSpec
import HandS.ForMost
import HandS.IsInst
import HandS.Deep
import HandS.Wide
import HandS.TupAny
import HandS.Zip
import HandS.Style
import HandS.Words
import HandS.Lambda
import HandS.RaiseMore
import HandS.SortInts
import HandS.Walk
import KE.GoesMore
import KE.GoesEnum
import HandS.TupMul
import PyProof.ReprRoads
import PyProof.Rows.IntBool
import KE.SortData
import KE.DataMinMax
import HandS.Conv
import PyProof.Rows.MatchSeqLen
import PyProof.RulesMatchSeq
import HandS.Dict
import KE.LtData
import KE.DataCmp
import PyProof.FactsAll.dict
import PyProof.NeData
import HandS.TryOnly
import PyProof.StrLawsRepr
import KE.KIntText
import KE.IntTextText
import PyProof.StrLawsTight
import PyProof.StrLawsChain
import KE.KExcSuper
import HandS.ExcInit
import HandS.ExcField
import HandS.ExcIs
import HandS.ExcOwn
import HandS.Small
import HandS.TryMany
import HandS.Nested
import HandS.WordsExc
import HandS.ExcCtx
import KE.KIsAll
import KE.KTryMore
import PySem.Challenge.RW_twobricks_k06_texts_of_no_kinds
set_option Elab.async false
set_option linter.all false
set_option maxRecDepth 100000
set_option maxHeartbeats 4000000
namespace DL
open PySem PySem.Spec PyProof.Rows L2

/-- the tables of code objects that lambdas are kept in: (table, the lambda's name) -/
class Tb where
  T : List (Addr × Str)
instance (priority := low) tb0 : Tb := ⟨[]⟩
/-! ### data that a value stands for -/
mutual
inductive Dn (K : PySem.W.Frag) (G : Hp) : V → PyData → Prop
  | non : Dn K G .non .none
  | bl (b : Bool) : Dn K G (.bl b) (.bool b)
  | int (i : Int) : Dn K G (.int i) (.int i)
  | str (x : Str) : Dn K G (.str x) (.str x)
  | lst {a : Addr} {xs : List V} {ds : List PyData} (h : G a = some (.lst xs)) (t : DnL K G xs ds) : Dn K G (.ref a) (.list ds)
  | tup {a : Addr} {xs : List V} {ds : List PyData} (h : G a = some (.tup xs)) (t : DnL K G xs ds) : Dn K G (.ref a) (.tuple ds)
  | dic {a : Addr} (h : G a = some (.dK [])) (n : a ≠ sysModules) : Dn K G (.ref a) (.dict [])
inductive DnL (K : PySem.W.Frag) (G : Hp) : List V → List PyData → Prop
  | nil : DnL K G [] []
  | cons {v : V} {vs : List V} {d : PyData} {ds : List PyData} (h : Dn K G v d) (t : DnL K G vs ds) : DnL K G (v :: vs) (d :: ds)
end
theorem sqT_mono {K : PySem.W.Frag} {G H : Hp} {a : Addr} {xs : List V} (s : Same G H) (h : SqT K G a xs) : SqT K H a xs := by
  rcases h with (h | ⟨o, h⟩) | h
  · exact .inl (.inl (s _ _ h))
  · exact .inl (.inr ⟨o, s _ _ h⟩)
  · exact .inr h
mutual
theorem Dn.mono {K : PySem.W.Frag} {G H : Hp} (s : Same G H) : ∀ {v : V} (d : PyData), Dn K G v d → Dn K H v d
  | _, .none, h => by cases h; exact .non
  | _, .bool b, h => by cases h; exact .bl b
  | _, .int i, h => by cases h; exact .int i
  | _, .str x, h => by cases h; exact .str x
  | _, .list ds, h => by cases h with | lst h t => exact .lst (s _ _ h) (DnL.mono s ds t)
  | _, .tuple ds, h => by cases h with | tup h t => exact .tup (s _ _ h) (DnL.mono s ds t)
  | _, .dict ds, h => by cases h with | dic h n => exact .dic (s _ _ h) n
theorem DnL.mono {K : PySem.W.Frag} {G H : Hp} (s : Same G H) : ∀ {vs : List V} (ds : List PyData), DnL K G vs ds → DnL K H vs ds
  | _, [], h => by cases h; exact .nil
  | _, d :: ds, h => by cases h with | cons a b => exact .cons (Dn.mono s d a) (DnL.mono s ds b)
end
section
variable {K : PySem.W.Frag} {G : Hp}
theorem DnL.len : ∀ {vs : List V} {ds : List PyData}, DnL K G vs ds → vs.length = ds.length
  | _, [], h => by cases h; rfl
  | _, d :: ds, h => by cases h with | cons a b => simp [DnL.len b]
theorem DnL.get : ∀ {vs : List V} {ds : List PyData} {i : Nat} {d : PyData}, DnL K G vs ds → ds[i]? = some d → ∃ v, vs[i]? = some v ∧ Dn K G v d
  | _, [], _, _, h, e => by simp at e
  | _, d :: ds, 0, _, h, e => by
    cases h with
    | cons a b => simp at e; subst e; exact ⟨_, rfl, a⟩
  | _, d :: ds, i + 1, x, h, e => by
    cases h with
    | cons a b =>
      obtain ⟨v, h1, h2⟩ := DnL.get (i := i) b (by simpa using e)
      exact ⟨v, by simpa using h1, h2⟩
theorem DnL.getV : ∀ {vs : List V} {ds : List PyData} {i : Nat} {v : V}, DnL K G vs ds → vs[i]? = some v → ∃ d, ds[i]? = some d ∧ Dn K G v d
  | _, [], _, _, h, e => by cases h; simp at e
  | _, d :: ds, 0, _, h, e => by
    cases h with
    | cons a b => simp at e; subst e; exact ⟨_, rfl, a⟩
  | _, d :: ds, i + 1, x, h, e => by
    cases h with
    | cons a b =>
      obtain ⟨v, h1, h2⟩ := DnL.getV (i := i) b (by simpa using e)
      exact ⟨v, by simpa using h1, h2⟩
theorem DnL.app : ∀ {vs ws : List V} {ds es : List PyData}, DnL K G vs ds → DnL K G ws es → DnL K G (vs ++ ws) (ds ++ es)
  | _, _, [], _, h, h2 => by cases h; exact h2
  | _, _, d :: ds, _, h, h2 => by cases h with | cons a b => exact .cons a (DnL.app b h2)
theorem DnL.take : ∀ {vs : List V} {ds : List PyData} (n : Nat), DnL K G vs ds → DnL K G (vs.take n) (ds.take n)
  | _, _, 0, _ => by simp; exact .nil
  | _, [], n + 1, h => by cases h; simp; exact .nil
  | _, d :: ds, n + 1, h => by cases h with | cons a b => exact .cons a (DnL.take n b)
theorem DnL.drop : ∀ {vs : List V} {ds : List PyData} (n : Nat), DnL K G vs ds → DnL K G (vs.drop n) (ds.drop n)
  | _, _, 0, h => by simpa using h
  | _, [], n + 1, h => by cases h; simp; exact .nil
  | _, d :: ds, n + 1, h => by cases h with | cons a b => exact DnL.drop n b
theorem DnL.rev : ∀ {vs : List V} {ds : List PyData}, DnL K G vs ds → DnL K G vs.reverse ds.reverse
  | _, [], h => by cases h; exact .nil
  | _, d :: ds, h => by
    cases h with
    | cons a b =>
      rw [List.reverse_cons, List.reverse_cons]
      exact DnL.app (DnL.rev b) (.cons a .nil)
theorem DnL.set {v : V} {d : PyData} (h : Dn K G v d) : ∀ {vs : List V} {ds : List PyData} (i : Nat), DnL K G vs ds → DnL K G (vs.set i v) (ds.set i d)
  | _, [], _, t => by cases t; exact .nil
  | _, _ :: _, 0, t => by cases t with | cons a b => exact .cons h b
  | _, _ :: _, i + 1, t => by cases t with | cons a b => exact .cons a (DnL.set h i b)
theorem DnL.dropLast {vs : List V} {ds : List PyData} (h : DnL K G vs ds) : DnL K G vs.dropLast ds.dropLast := by
  rw [List.dropLast_eq_take, List.dropLast_eq_take, h.len]
  exact h.take _
theorem DnL.erase : ∀ {vs : List V} {ds : List PyData} (i : Nat), DnL K G vs ds → DnL K G (vs.eraseIdx i) (ds.eraseIdx i)
  | _, [], _, t => by cases t; exact .nil
  | _, _ :: _, 0, t => by cases t with | cons a b => exact b
  | _, _ :: _, i + 1, t => by cases t with | cons a b => exact .cons a (DnL.erase i b)
theorem DnL.ints : ∀ (ns : List Int), DnL K G (ns.map V.int) (ns.map PyData.int)
  | [] => .nil
  | n :: ns => .cons (.int n) (DnL.ints ns)
theorem DnL.toInts : ∀ {vs : List V} {ns : List Int}, DnL K G vs (ns.map PyData.int) → vs = ns.map V.int
  | _, [], h => by cases h; rfl
  | _, n :: ns, h => by
    cases h with
    | cons a b => cases a; rw [DnL.toInts b]; rfl
theorem DnL.toStrs : ∀ {vs : List V} {ns : List Str}, DnL K G vs (ns.map PyData.str) → vs = ns.map V.str
  | _, [], h => by cases h; rfl
  | _, n :: ns, h => by
    cases h with
    | cons a b => cases a; rw [DnL.toStrs b]; rfl
theorem DnL.toBools : ∀ {vs : List V} {ns : List Bool}, DnL K G vs (ns.map PyData.bool) → vs = ns.map V.bl
  | _, [], h => by cases h; rfl
  | _, n :: ns, h => by
    cases h with
    | cons a b => cases a; rw [DnL.toBools b]; rfl
end

/-! ### cells of slots -/
/-- what a slot holds: nothing; data that never changes any more; a list of one's own (its address, its items); the deck -/
inductive Cell where
  | em
  | d (x : PyData)
  | ol (a : Addr) (xs : List PyData)
  | dk (a b c : Addr)
  | scr (a : Addr) (ns : List Int)
  | dx (a b c : Addr) (xs : List Int) (n : Int) (ys : List Int)
  | od (a : Addr) (kvs : List (List Int × PyData))
  | xc (a : Addr) (cls : Value) (d : Option Addr) (x : PyData)
def Cell.fp : Cell → List Addr
  | .ol a _ => [a]
  | .dk a b c => [a, b, c]
  | .dx a b c _ _ _ => [a, b, c]
  | .od a _ => [a]
  | _ => []
/-- a dict whose keys are tuples of integers -/
def keyI (k : List Int) : List Key := k.map fun i => (Sum.inl i : Key)
def DnK (K : PySem.W.Frag) (G : Hp) (ws : List (List Key × V)) (kvs : List (List Int × PyData)) : Prop := ws.map (·.1) = kvs.map (fun p => keyI p.1) ∧ DnL K G (ws.map (·.2)) (kvs.map (·.2))
/-- the deck: the great numbers that are left, all numbers, the count -/
def DeckOk (H : Hp) (a b c : Addr) : Prop := a ≠ b ∧ a ≠ c ∧ b ≠ c ∧ ∃ (n : Int) (xs ys : List Int), H a = some (.lst [.ref b, .ref c, .int n]) ∧ H b = some (.lst (xs.map V.int)) ∧ H c = some (.lst (ys.map V.int)) ∧ ys ≠ [] ∧ ∀ x ∈ xs, 0 ≤ x
/-! ### exceptions as data: name, fields -/
def excD (n : Str) (fs : List (Str × PyData)) : PyData := .dict [(.str n, .dict (fs.map fun p => (.str p.1, p.2)))]
/-- an exception's class and dict stand for it -/
def ExcAt (K : PySem.W.Frag) (G : Hp) (cls : Value) (d : Option Addr) (x : PyData) : Prop := ∃ (n : Str) (C : Addr) (fs : List (Str × PyData)), x = excD n fs ∧ cls = .ref C ∧ (PySem.W.clsIn K C).map (·.name) = some n ∧
  ((∃ (dd : Addr) (ws : List (Str × V)), d = some dd ∧ G dd = some (.xd ws) ∧ ws.map (·.1) = fs.map (·.1) ∧ DnL K G (ws.map (·.2)) (fs.map (·.2))) ∨ (fs = [] ∧ d = none))
theorem ExcAt.mono {K : PySem.W.Frag} {G G' : Hp} {cls : Value} {d : Option Addr} {x : PyData} (s : Same G G') (h : ExcAt K G cls d x) : ExcAt K G' cls d x := by
  obtain ⟨n, C, fs, h1, h2, h3, h4⟩ := h
  refine ⟨n, C, fs, h1, h2, h3, ?_⟩
  rcases h4 with ⟨dd, ws, q1, q2, q3, q4⟩ | q
  · exact .inl ⟨dd, ws, q1, s _ _ q2, q3, q4.mono s⟩
  · exact .inr q
def CellOk (K : PySem.W.Frag) (G H : Hp) : Cell → Option V → Prop
  | .em, _ => True
  | .d x, o => ∃ v, o = some v ∧ Dn K G v x
  | .ol a xs, o => o = some (.ref a) ∧ ∃ vs, H a = some (.lst vs) ∧ DnL K G vs xs
  | .dk a b c, o => o = some (.ref a) ∧ DeckOk H a b c
  | .scr a ns, o => o = some (.ref a) ∧ SqL K G a (ns.map V.int)
  | .od a kvs, o => o = some (.ref a) ∧ ∃ ws, H a = some (.dT ws) ∧ DnK K G ws kvs
  | .xc a cls d x, o => o = some (.ref a) ∧ ExcAt K G cls d x
  | .dx a b c xs n ys, o => o = some (.ref a) ∧ a ≠ b ∧ a ≠ c ∧ b ≠ c ∧ H a = some (.lst [.ref b, .ref c, .int n]) ∧ H b = some (.lst (xs.map V.int)) ∧ H c = some (.lst (ys.map V.int))

abbrev DS := List Cell
/-- what is neither a table nor a code object -/
def notTE (x : HO) : Prop := (∀ ps, x ≠ .tbl ps) ∧ ∀ f, x ≠ .ext f
theorem notTE_lst {xs : List V} : notTE (.lst xs) := ⟨fun _ z => (nomatch z), fun _ z => (nomatch z)⟩
theorem tabs_upd {T : List (Addr × Str)} {H : Hp} {p : Addr} {o : HO} (h : LamX.Tabs T H) (hp : ∀ x, H p = some x → notTE x) : LamX.Tabs T (upd H p o) := fun q hq => by
  obtain ⟨ps, h1, h2, h3⟩ := h q hq
  refine ⟨ps, ?_, h2, fun pos cv hc => ?_⟩
  · rw [upd_ne (fun z => (hp _ (by rw [← z]; exact h1)).1 ps rfl)]; exact h1
  · obtain ⟨c, e1, e2⟩ := h3 pos cv hc
    exact ⟨c, e1, by rw [upd_ne (fun z => (hp _ (by rw [← z]; exact e2)).2 _ rfl)]; exact e2⟩
theorem tabs_new {T : List (Addr × Str)} {H : Hp} {p : Addr} {o : HO} (h : LamX.Tabs T H) (hp : H p = none) : LamX.Tabs T (upd H p o) := tabs_upd h fun x e => by rw [hp] at e; cases e
variable [Tb]
structure Rel (K : PySem.W.Frag) (B G : Hp) (δ : DS) (σ : L2.St) (H : Hp) : Prop where
  len : σ.length = δ.length
  sg : Same G H
  sb : Same B H
  dj : ∀ a, G a = none ∨ B a = none
  ok : ∀ (i : Nat) (c : Cell) (o : Option V), δ[i]? = some c → σ[i]? = some o → CellOk K G H c o
  ap : ∀ (i j : Nat) (c c' : Cell) (a : Addr), δ[i]? = some c → δ[j]? = some c' → a ∈ c.fp → a ∈ c'.fp → i = j
  fr : ∀ (i : Nat) (c : Cell) (a : Addr), δ[i]? = some c → a ∈ c.fp → G a = none ∧ B a = none
  tt : LamX.Tabs Tb.T H

section
variable {K : PySem.W.Frag} {B G G' H H' : Hp} {δ : DS} {σ : L2.St} {p a : Addr} {o : HO} {i : Nat} {c : Cell}
theorem same_new (h : H p = none) : Same H (upd H p o) := fun b x e => by
  rw [upd_ne (ne_of_none e h)]; exact e
theorem Rel.at (R : Rel K B G δ σ H) (h : δ[i]? = some c) : ∃ o, σ[i]? = some o ∧ CellOk K G H c o := by
  have hi : i < δ.length := (List.getElem?_eq_some_iff.mp h).1
  have hs : i < σ.length := by rw [R.len]; exact hi
  exact ⟨σ[i], List.getElem?_eq_getElem hs, R.ok i c _ h (List.getElem?_eq_getElem hs)⟩
theorem cell_tracked (ok : CellOk K G H c (some (.ref a))) (hc : p ∈ c.fp) : ∃ o, H p = some o := by
  cases c with
  | em => cases hc
  | d x => cases hc
  | ol a xs =>
    obtain ⟨_, vs, e, _⟩ := ok
    rw [List.mem_singleton.mp hc]; exact ⟨_, e⟩
  | dk a b c =>
    obtain ⟨_, _, _, _, n, xs, ys, e1, e2, e3, _⟩ := ok
    simp only [Cell.fp, List.mem_cons, List.not_mem_nil, or_false] at hc
    rcases hc with rfl | rfl | rfl
    · exact ⟨_, e1⟩
    · exact ⟨_, e2⟩
    · exact ⟨_, e3⟩
  | scr a ns => cases hc
  | xc a cls d x => cases hc
  | od a kvs =>
    obtain ⟨_, ws, e, _⟩ := ok
    rw [List.mem_singleton.mp hc]; exact ⟨_, e⟩
  | dx a b c xs n ys =>
    obtain ⟨_, _, _, _, e1, e2, e3⟩ := ok
    simp only [Cell.fp, List.mem_cons, List.not_mem_nil, or_false] at hc
    rcases hc with rfl | rfl | rfl
    · exact ⟨_, e1⟩
    · exact ⟨_, e2⟩
    · exact ⟨_, e3⟩
theorem cell_tr {o : Option V} (ok : CellOk K G H c o) (hc : p ∈ c.fp) : ∃ o, H p = some o := by
  cases c with
  | em => cases hc
  | d x => cases hc
  | ol a xs => exact cell_tracked (a := a) (by obtain ⟨e, r⟩ := ok; exact ⟨rfl, r⟩) hc
  | dk a b c => exact cell_tracked (K := K) (G := G) (a := a) (by obtain ⟨e, r⟩ := ok; exact ⟨rfl, r⟩) hc
  | scr a ns => cases hc
  | xc a cls d x => cases hc
  | od a kvs => exact cell_tracked (K := K) (G := G) (a := a) (by obtain ⟨e, r⟩ := ok; exact ⟨rfl, r⟩) hc
  | dx a b c xs n ys => exact cell_tracked (K := K) (G := G) (a := a) (by obtain ⟨e, r⟩ := ok; exact ⟨rfl, r⟩) hc
/-- a cell's content goes along with a change that spares its own objects -/
theorem CellOk.stay {o : Option V} (ok : CellOk K G H c o) (sg : Same G G') (hk : ∀ b ∈ c.fp, H' b = H b) : CellOk K G' H' c o := by
  cases c with
  | em => trivial
  | d x => obtain ⟨v, e, h⟩ := ok; exact ⟨v, e, h.mono sg⟩
  | ol a xs =>
    obtain ⟨e, vs, h, t⟩ := ok
    exact ⟨e, vs, by rw [hk a (by simp [Cell.fp])]; exact h, t.mono sg⟩
  | dk a b c =>
    obtain ⟨e, h1, h2, h3, n, xs, ys, e1, e2, e3, r⟩ := ok
    exact ⟨e, h1, h2, h3, n, xs, ys, by rw [hk a (by simp [Cell.fp])]; exact e1, by rw [hk b (by simp [Cell.fp])]; exact e2, by rw [hk c (by simp [Cell.fp])]; exact e3, r⟩
  | scr a ns => exact ⟨ok.1, sg.seq ok.2⟩
  | xc a cls d x => exact ⟨ok.1, ok.2.mono sg⟩
  | od a kvs =>
    obtain ⟨e, ws, h, t1, t2⟩ := ok
    exact ⟨e, ws, by rw [hk a (by simp [Cell.fp])]; exact h, t1, t2.mono sg⟩
  | dx a b c xs n ys =>
    obtain ⟨e, h1, h2, h3, e1, e2, e3⟩ := ok
    exact ⟨e, h1, h2, h3, by rw [hk a (by simp [Cell.fp])]; exact e1, by rw [hk b (by simp [Cell.fp])]; exact e2, by rw [hk c (by simp [Cell.fp])]; exact e3⟩
theorem Rel.tr (R : Rel K B G δ σ H) (h : δ[i]? = some c) (hc : p ∈ c.fp) : ∃ o, H p = some o := by
  obtain ⟨o, _, ok⟩ := R.at h
  exact cell_tr ok hc
theorem Rel.freeG (R : Rel K B G δ σ H) (h : H p = none) : G p = none := R.sg.free h
theorem Rel.freeB (R : Rel K B G δ σ H) (h : H p = none) : B p = none := R.sb.free h
/-- a new object, laid to what never changes -/
theorem Rel.laid (R : Rel K B G δ σ H) (h : H p = none) : Rel K B (upd G p o) δ σ (upd H p o) ∧ Same G (upd G p o) := by
  have sG : Same G (upd G p o) := same_new (R.freeG h)
  refine ⟨⟨R.len, fun b x e => ?_, R.sb.trans (same_new h), fun b => ?_, fun i c w e1 e2 => ?_, R.ap, fun i c b e hb => ?_, tabs_new R.tt h⟩, sG⟩
  · by_cases hb : b = p
    · subst hb; rw [upd_same] at e ⊢; exact e
    · rw [upd_ne hb] at e ⊢; exact R.sg _ _ e
  · by_cases hb : b = p
    · subst hb; exact .inr (R.freeB h)
    · rw [upd_ne hb]; exact R.dj b
  · refine (R.ok i c w e1 e2).stay sG fun b hb => ?_
    obtain ⟨x, ex⟩ := R.tr e1 hb
    exact upd_ne (ne_of_none ex h)
  · obtain ⟨x, ex⟩ := R.tr e hb
    obtain ⟨f1, f2⟩ := R.fr i c b e hb
    exact ⟨by rw [upd_ne (ne_of_none ex h)]; exact f1, f2⟩
/-- a new object that isn't looked at yet -/
theorem Rel.grow (R : Rel K B G δ σ H) (h : H p = none) : Rel K B G δ σ (upd H p o) := by
  refine ⟨R.len, R.sg.trans (same_new h), R.sb.trans (same_new h), R.dj, fun i c w e1 e2 => ?_, R.ap, R.fr, tabs_new R.tt h⟩
  refine (R.ok i c w e1 e2).stay (Same.refl _) fun b hb => ?_
  obtain ⟨x, ex⟩ := R.tr e1 hb
  exact upd_ne (ne_of_none ex h)
/-- .. it is set among what is kept for others -/
theorem Rel.growB (R : Rel K B G δ σ H) (h : H p = none) : Rel K (upd B p o) G δ σ (upd H p o) := by
  refine ⟨R.len, R.sg.trans (same_new h), fun b x e => ?_, fun b => ?_, fun i c w e1 e2 => ?_, R.ap, fun i c b e hb => ?_, tabs_new R.tt h⟩
  · by_cases hb : b = p
    · subst hb; rw [upd_same] at e ⊢; exact e
    · rw [upd_ne hb] at e ⊢; exact R.sb _ _ e
  · by_cases hb : b = p
    · subst hb; exact .inl (R.freeG h)
    · rw [upd_ne hb]; exact R.dj b
  · refine (R.ok i c w e1 e2).stay (Same.refl _) fun b hb => ?_
    obtain ⟨x, ex⟩ := R.tr e1 hb
    exact upd_ne (ne_of_none ex h)
  · obtain ⟨x, ex⟩ := R.tr e hb
    obtain ⟨f1, f2⟩ := R.fr i c b e hb
    exact ⟨f1, by rw [upd_ne (ne_of_none ex h)]; exact f2⟩
/-- one of those kept for others is changed (by whom it belongs to) -/
theorem Rel.putB (R : Rel K B G δ σ H) {u : HO} (h : B p = some u) (hu : notTE u) : Rel K (upd B p o) G δ σ (upd H p o) := by
  have gp : G p = none := by
    rcases R.dj p with e | e
    · exact e
    · rw [h] at e; cases e
  refine ⟨R.len, fun b x e => ?_, fun b x e => ?_, fun b => ?_, fun i c w e1 e2 => ?_, R.ap, fun i c b e hb => ?_, tabs_upd R.tt fun x e => by rw [R.sb _ _ h] at e; cases e; exact hu⟩
  · have hb : b ≠ p := fun z => by rw [z, gp] at e; cases e
    rw [upd_ne hb]; exact R.sg _ _ e
  · by_cases hb : b = p
    · subst hb; rw [upd_same] at e ⊢; exact e
    · rw [upd_ne hb] at e ⊢; exact R.sb _ _ e
  · by_cases hb : b = p
    · subst hb; exact .inl gp
    · rw [upd_ne hb]; exact R.dj b
  · refine (R.ok i c w e1 e2).stay (Same.refl _) fun b hb => upd_ne fun z => ?_
    have := (R.fr i c b e1 hb).2
    rw [z, h] at this; cases this
  · obtain ⟨f1, f2⟩ := R.fr i c b e hb
    refine ⟨f1, ?_⟩
    rw [upd_ne (fun z => by rw [z, h] at f2; cases f2)]; exact f2
/-- what was kept for others and hangs on nobody is now looked at: frozen -/
theorem Rel.takeB (R : Rel K B G δ σ H) {B0 : Hp} (h0 : B0 p = none) (hs : ∀ b, b ≠ p → B0 b = B b) {u : HO} (h : B p = some u) : Rel K B0 (upd G p u) δ σ H ∧ Same G (upd G p u) := by
  have gp : G p = none := by
    rcases R.dj p with e | e
    · exact e
    · rw [h] at e; cases e
  have sG : Same G (upd G p u) := same_new gp
  refine ⟨⟨R.len, fun b x e => ?_, fun b x e => ?_, fun b => ?_, fun i c w e1 e2 => (R.ok i c w e1 e2).stay sG fun _ _ => rfl, R.ap, fun i c b e hb => ?_, R.tt⟩, sG⟩
  · by_cases hb : b = p
    · subst hb; rw [upd_same] at e; cases e; exact R.sb _ _ h
    · rw [upd_ne hb] at e; exact R.sg _ _ e
  · have hb : b ≠ p := fun z => by rw [z, h0] at e; cases e
    rw [hs b hb] at e; exact R.sb _ _ e
  · by_cases hb : b = p
    · subst hb; exact .inr h0
    · rw [upd_ne hb, hs b hb]; exact R.dj b
  · obtain ⟨f1, f2⟩ := R.fr i c b e hb
    have hbp : b ≠ p := fun z => by rw [z, h] at f2; cases f2
    exact ⟨by rw [upd_ne hbp]; exact f1, by rw [hs b hbp]; exact f2⟩
/-- .. dropped from what is kept: it is a list of one's own now -/
theorem Rel.dropB (R : Rel K B G δ σ H) {B0 : Hp} (h0 : B0 p = none) (hs : ∀ b, b ≠ p → B0 b = B b) : Rel K B0 G δ σ H := by
  refine ⟨R.len, R.sg, fun b x e => ?_, fun b => ?_, R.ok, R.ap, fun i c b e hb => ?_, R.tt⟩
  · have hb : b ≠ p := fun z => by rw [z, h0] at e; cases e
    rw [hs b hb] at e; exact R.sb _ _ e
  · by_cases hb : b = p
    · subst hb; exact .inr h0
    · rw [hs b hb]; exact R.dj b
  · obtain ⟨f1, f2⟩ := R.fr i c b e hb
    refine ⟨f1, ?_⟩
    by_cases hbp : b = p
    · rw [hbp]; exact h0
    · rw [hs b hbp]; exact f2
/-- a slot is stored -/
theorem Rel.set {v : V} (R : Rel K B G δ σ H) (ok : CellOk K G H c (some v)) (hn : ∀ a ∈ c.fp, (G a = none ∧ B a = none) ∧ ∀ j c', j ≠ i → δ[j]? = some c' → a ∉ c'.fp) : Rel K B G (δ.set i c) (σ.set i (some v)) H := by
  have get : ∀ {j : Nat} {x : Cell}, (δ.set i c)[j]? = some x → (j = i ∧ x = c) ∨ (j ≠ i ∧ δ[j]? = some x) := fun {j x} e => by
    by_cases hj : j = i
    · subst hj
      rw [List.getElem?_set] at e
      simp only [if_true] at e
      split at e
      · cases e; exact .inl ⟨rfl, rfl⟩
      · cases e
    · rw [List.getElem?_set_ne (Ne.symm hj)] at e; exact .inr ⟨hj, e⟩
  refine ⟨by simp [R.len], R.sg, R.sb, R.dj, fun j x w e1 e2 => ?_, fun j k x y a e1 e2 m1 m2 => ?_, fun j x a e m => ?_, R.tt⟩
  · rcases get e1 with ⟨rfl, rfl⟩ | ⟨hj, e1⟩
    · rw [List.getElem?_set] at e2
      simp only [if_true] at e2
      split at e2
      · cases e2; exact ok
      · cases e2
    · rw [List.getElem?_set_ne (Ne.symm hj)] at e2
      exact R.ok j x w e1 e2
  · rcases get e1 with ⟨h1, h1'⟩ | ⟨h1, e3⟩
    · rcases get e2 with ⟨h2, h2'⟩ | ⟨h2, e4⟩
      · rw [h1, h2]
      · rw [h1'] at m1; exact absurd m2 ((hn a m1).2 k y h2 e4)
    · rcases get e2 with ⟨h2, h2'⟩ | ⟨h2, e4⟩
      · rw [h2'] at m2; exact absurd m1 ((hn a m2).2 j x h1 e3)
      · exact R.ap j k x y a e3 e4 m1 m2
  · rcases get e with ⟨_, rfl⟩ | ⟨_, e⟩
    · exact (hn a m).1
    · exact R.fr j x a e m
theorem Rel.setD {v : V} {x : PyData} (R : Rel K B G δ σ H) (h : Dn K G v x) : Rel K B G (δ.set i (.d x)) (σ.set i (some v)) H :=
  R.set ⟨v, rfl, h⟩ fun a m => by cases m
/-- a slot is forgotten -/
theorem Rel.clear (R : Rel K B G δ σ H) (o : Option V) : Rel K B G (δ.set i .em) (σ.set i o) H := by
  have get : ∀ {j : Nat} {x : Cell}, (δ.set i .em)[j]? = some x → x = .em ∨ (j ≠ i ∧ δ[j]? = some x) := fun {j x} e => by
    by_cases hj : j = i
    · subst hj
      rw [List.getElem?_set] at e
      simp only [if_true] at e
      split at e
      · cases e; exact .inl rfl
      · cases e
    · rw [List.getElem?_set_ne (Ne.symm hj)] at e; exact .inr ⟨hj, e⟩
  refine ⟨by simp [R.len], R.sg, R.sb, R.dj, fun j x w e1 e2 => ?_, fun j k x y a e1 e2 m1 m2 => ?_, fun j x a e m => ?_, R.tt⟩
  · rcases get e1 with rfl | ⟨hj, e1⟩
    · trivial
    · rw [List.getElem?_set_ne (Ne.symm hj)] at e2
      exact R.ok j x w e1 e2
  · rcases get e1 with rfl | ⟨h1, e1⟩
    · cases m1
    · rcases get e2 with rfl | ⟨h2, e2⟩
      · cases m2
      · exact R.ap j k x y a e1 e2 m1 m2
  · rcases get e with rfl | ⟨_, e⟩
    · cases m
    · exact R.fr j x a e m
/-- the cell at i is told otherwise (its value stays) -/
theorem Rel.recell {o : Option V} (R : Rel K B G δ σ H) (hσ : σ[i]? = some o) (ok : CellOk K G H c o) (hn : ∀ a ∈ c.fp, (G a = none ∧ B a = none) ∧ ∀ j c', j ≠ i → δ[j]? = some c' → a ∉ c'.fp) : Rel K B G (δ.set i c) σ H := by
  have hi : i < σ.length := (List.getElem?_eq_some_iff.mp hσ).1
  cases o with
  | some v =>
    have := R.set (i := i) (v := v) ok hn
    have e : σ.set i (some v) = σ := by
      apply List.ext_getElem?
      intro j
      by_cases hj : j = i
      · subst hj; rw [List.getElem?_set_self hi, hσ]
      · rw [List.getElem?_set_ne (Ne.symm hj)]
    rw [e] at this; exact this
  | none =>
    cases c with
    | em =>
      have := R.clear (i := i) none
      have e : σ.set i none = σ := by
        apply List.ext_getElem?
        intro j
        by_cases hj : j = i
        · subst hj; rw [List.getElem?_set_self hi, hσ]
        · rw [List.getElem?_set_ne (Ne.symm hj)]
      rw [e] at this; exact this
    | d x => obtain ⟨v, e, _⟩ := ok; cases e
    | ol a xs => obtain ⟨e, _⟩ := ok; cases e
    | dk a b c => obtain ⟨e, _⟩ := ok; cases e
    | scr a ns => obtain ⟨e, _⟩ := ok; cases e
    | xc a cls d x => obtain ⟨e, _⟩ := ok; cases e
    | od a kvs => obtain ⟨e, _⟩ := ok; cases e
    | dx a b c xs n ys => obtain ⟨e, _⟩ := ok; cases e
/-- a list of one's own is given away: it never changes any more -/
theorem Rel.freeze {xs : List PyData} (R : Rel K B G δ σ H) (h : δ[i]? = some (.ol a xs)) :
    ∃ vs, H a = some (.lst vs) ∧ DnL K G vs xs ∧ σ[i]? = some (some (.ref a)) ∧ Same G (upd G a (.lst vs)) ∧ Rel K B (upd G a (.lst vs)) (δ.set i (.d (.list xs))) σ H ∧ Dn K (upd G a (.lst vs)) (.ref a) (.list xs) := by
  obtain ⟨o, hσ, rfl, vs, e, t⟩ := R.at h
  obtain ⟨ga, ba⟩ := R.fr i _ a h (by simp [Cell.fp])
  have sG : Same G (upd G a (.lst vs)) := same_new ga
  have dn : Dn K (upd G a (.lst vs)) (.ref a) (.list xs) := .lst upd_same (t.mono sG)
  have hi : i < δ.length := (List.getElem?_eq_some_iff.mp h).1
  have get : ∀ {j : Nat} {x : Cell}, (δ.set i (.d (.list xs)))[j]? = some x → (j = i ∧ x = .d (.list xs)) ∨ (j ≠ i ∧ δ[j]? = some x) := fun {j x} e => by
    by_cases hj : j = i
    · subst hj
      rw [List.getElem?_set_self hi] at e; cases e; exact .inl ⟨rfl, rfl⟩
    · rw [List.getElem?_set_ne (Ne.symm hj)] at e; exact .inr ⟨hj, e⟩
  refine ⟨vs, e, t, hσ, sG, ⟨by simp [R.len], fun b x q => ?_, R.sb, fun b => ?_, fun j x w e1 e2 => ?_, fun j k x y z e1 e2 m1 m2 => ?_, fun j x z e1 m => ?_, R.tt⟩, dn⟩
  · by_cases hb : b = a
    · subst hb; rw [upd_same] at q; cases q; exact e
    · rw [upd_ne hb] at q; exact R.sg _ _ q
  · by_cases hb : b = a
    · subst hb; exact .inr ba
    · rw [upd_ne hb]; exact R.dj b
  · rcases get e1 with ⟨rfl, rfl⟩ | ⟨hj, e1⟩
    · rw [hσ] at e2; cases e2; exact ⟨_, rfl, dn⟩
    · exact (R.ok j x w e1 e2).stay sG fun _ _ => rfl
  · rcases get e1 with ⟨_, rfl⟩ | ⟨h1, e1⟩
    · cases m1
    · rcases get e2 with ⟨_, rfl⟩ | ⟨h2, e2⟩
      · cases m2
      · exact R.ap j k x y z e1 e2 m1 m2
  · rcases get e1 with ⟨_, rfl⟩ | ⟨hj, e1⟩
    · cases m
    · obtain ⟨f1, f2⟩ := R.fr j x z e1 m
      refine ⟨?_, f2⟩
      rw [upd_ne (fun q => ?_)]
      · exact f1
      · subst q
        exact hj (R.ap j i x _ z e1 h m (by simp [Cell.fp]))
/-- a list of one's own is changed -/
theorem Rel.write {xs ys : List PyData} {ws : List V} (R : Rel K B G δ σ H) (h : δ[i]? = some (.ol a xs)) (t' : DnL K G ws ys) : Rel K B G (δ.set i (.ol a ys)) σ (upd H a (.lst ws)) := by
  obtain ⟨o, hσ, rfl, vs, e, t⟩ := R.at h
  obtain ⟨ga, ba⟩ := R.fr i _ a h (by simp [Cell.fp])
  have hi : i < δ.length := (List.getElem?_eq_some_iff.mp h).1
  have get : ∀ {j : Nat} {x : Cell}, (δ.set i (.ol a ys))[j]? = some x → (j = i ∧ x = .ol a ys) ∨ (j ≠ i ∧ δ[j]? = some x) := fun {j x} e => by
    by_cases hj : j = i
    · subst hj
      rw [List.getElem?_set_self hi] at e; cases e; exact .inl ⟨rfl, rfl⟩
    · rw [List.getElem?_set_ne (Ne.symm hj)] at e; exact .inr ⟨hj, e⟩
  refine ⟨by simp [R.len], fun b x q => ?_, fun b x q => ?_, R.dj, fun j x w e1 e2 => ?_, fun j k x y z e1 e2 m1 m2 => ?_, fun j x z e1 m => ?_, tabs_upd R.tt fun x e' => by rw [e] at e'; cases e'; exact notTE_lst⟩
  · rw [upd_ne (fun z => by rw [z, ga] at q; cases q)]; exact R.sg _ _ q
  · rw [upd_ne (fun z => by rw [z, ba] at q; cases q)]; exact R.sb _ _ q
  · rcases get e1 with ⟨rfl, rfl⟩ | ⟨hj, e1⟩
    · rw [hσ] at e2; cases e2; exact ⟨rfl, ws, upd_same, t'⟩
    · refine (R.ok j x w e1 e2).stay (Same.refl _) fun b hb => upd_ne fun q => ?_
      rw [q] at hb
      exact hj (R.ap j i x _ a e1 h hb (by simp [Cell.fp]))
  · rcases get e1 with ⟨h1, rfl⟩ | ⟨h1, e1⟩
    · rcases get e2 with ⟨h2, rfl⟩ | ⟨h2, e2⟩
      · rw [h1, h2]
      · exact h1.trans (R.ap i k _ y z h e2 (by simpa [Cell.fp] using m1) m2)
    · rcases get e2 with ⟨h2, rfl⟩ | ⟨h2, e2⟩
      · exact (R.ap j i x _ z e1 h m1 (by simpa [Cell.fp] using m2)).trans h2.symm
      · exact R.ap j k x y z e1 e2 m1 m2
  · rcases get e1 with ⟨_, rfl⟩ | ⟨hj, e1⟩
    · have : z = a := by simpa [Cell.fp] using m
      subst this; exact ⟨ga, ba⟩
    · exact R.fr j x z e1 m
end
end DL
set_option Elab.async false
set_option linter.all false
set_option maxRecDepth 100000
set_option maxHeartbeats 4000000
namespace DL
open PySem PySem.Spec PyProof.Rows L2
variable [Tb]

/-! ### operands: data, or what a slot holds -/
inductive Opd where
  | d (x : PyData)
  | s (i : Nat)
def OpdOk (K : PySem.W.Frag) (G : Hp) (σ : L2.St) (v : V) : Opd → Prop
  | .d x => Dn K G v x
  | .s i => σ[i]? = some (some v)
inductive OpdsOk (K : PySem.W.Frag) (G : Hp) (σ : L2.St) : List V → List Opd → Prop
  | nil : OpdsOk K G σ [] []
  | cons {v : V} {vs : List V} {o : Opd} {os : List Opd} (h : OpdOk K G σ v o) (t : OpdsOk K G σ vs os) : OpdsOk K G σ (v :: vs) (o :: os)
/-- data, or a list of one's own that is looked at -/
def Bor (K : PySem.W.Frag) (G H : Hp) (v : V) (x : PyData) : Prop := Dn K G v x ∨ ∃ a vs xs, v = .ref a ∧ x = .list xs ∧ H a = some (.lst vs) ∧ DnL K G vs xs
/-- looked at -/
def use (o : Opd) (δ : DS) (k : PyData → Prop) : Prop :=
  match o with
  | .d x => k x
  | .s i => match δ[i]? with
    | some (.d x) => k x
    | some (.ol _ xs) => k (.list xs)
    | _ => False
/-- given away -/
def lk (o : Opd) (δ : DS) (k : PyData → DS → Prop) : Prop :=
  match o with
  | .d x => k x δ
  | .s i => match δ[i]? with
    | some (.d x) => k x δ
    | some (.ol _ xs) => k (.list xs) (δ.set i (.d (.list xs)))
    | _ => False
def useL : List Opd → DS → (List PyData → Prop) → Prop
  | [], _, k => k []
  | o :: os, δ, k => use o δ fun x => useL os δ fun xs => k (x :: xs)
def lkL : List Opd → DS → (List PyData → DS → Prop) → Prop
  | [], δ, k => k [] δ
  | o :: os, δ, k => lk o δ fun x δ1 => lkL os δ1 fun xs δ2 => k (x :: xs) δ2
inductive BorL (K : PySem.W.Frag) (G H : Hp) : List V → List PyData → Prop
  | nil : BorL K G H [] []
  | cons {v : V} {vs : List V} {d : PyData} {ds : List PyData} (h : Bor K G H v d) (t : BorL K G H vs ds) : BorL K G H (v :: vs) (d :: ds)
section
variable {K : PySem.W.Frag} {B G G' H H' : Hp} {δ δ' : DS} {σ : L2.St} {v : V} {o : Opd} {x : PyData}
theorem OpdOk.mono (s : Same G G') (h : OpdOk K G σ v o) : OpdOk K G' σ v o := by
  cases o with
  | d x => exact Dn.mono s x h
  | s i => exact h
theorem OpdsOk.mono (s : Same G G') : ∀ {vs : List V} {os : List Opd}, OpdsOk K G σ vs os → OpdsOk K G' σ vs os
  | _, [], h => by cases h; exact .nil
  | _, o :: os, h => by cases h with | cons a b => exact .cons (a.mono s) (OpdsOk.mono s b)
theorem Bor.dn (R : Rel K B G δ σ H) (h : Bor K G H v x) : Dn K H v x := by
  rcases h with h | ⟨a, vs, xs, rfl, rfl, e, t⟩
  · exact h.mono R.sg
  · exact .lst e (t.mono R.sg)
theorem use_ok {k : PyData → Prop} (R : Rel K B G δ σ H) (ok : OpdOk K G σ v o) (h : use o δ k) : ∃ x, k x ∧ Bor K G H v x := by
  cases o with
  | d x => exact ⟨x, h, .inl ok⟩
  | s i =>
    have ok : σ[i]? = some (some v) := ok
    unfold use at h
    simp only at h
    cases e : δ[i]? with
    | none => rw [e] at h; exact h.elim
    | some c =>
      rw [e] at h
      obtain ⟨w, hw, co⟩ := R.at e
      rw [ok] at hw; cases hw
      cases c with
      | em => exact h.elim
      | dk a b c => exact h.elim
      | scr a ns => exact h.elim
      | xc a cls d x => exact h.elim
      | od a kvs => exact h.elim
      | dx a b c xs n ys => exact h.elim
      | d x =>
        obtain ⟨v', e', q⟩ := co
        cases e'
        exact ⟨x, h, .inl q⟩
      | ol a xs =>
        obtain ⟨e', vs, q, t⟩ := co
        cases e'
        exact ⟨_, h, .inr ⟨a, vs, xs, rfl, rfl, q, t⟩⟩
theorem lk_ok {k : PyData → DS → Prop} (R : Rel K B G δ σ H) (ok : OpdOk K G σ v o) (h : lk o δ k) : ∃ G' δ' x, k x δ' ∧ Same G G' ∧ Rel K B G' δ' σ H ∧ Dn K G' v x := by
  cases o with
  | d x => exact ⟨G, δ, x, h, Same.refl _, R, ok⟩
  | s i =>
    have ok : σ[i]? = some (some v) := ok
    unfold lk at h
    simp only at h
    cases e : δ[i]? with
    | none => rw [e] at h; exact h.elim
    | some c =>
      rw [e] at h
      cases c with
      | em => exact h.elim
      | dk a b c => exact h.elim
      | scr a ns => exact h.elim
      | xc a cls d x => exact h.elim
      | od a kvs => exact h.elim
      | dx a b c xs n ys => exact h.elim
      | d x =>
        obtain ⟨w, hw, co⟩ := R.at e
        rw [ok] at hw; cases hw
        obtain ⟨v', e', q⟩ := co
        cases e'
        exact ⟨G, δ, x, h, Same.refl _, R, q⟩
      | ol a xs =>
        obtain ⟨vs, q1, q2, q3, q4, q5, q6⟩ := R.freeze e
        rw [ok] at q3; cases q3
        exact ⟨_, _, _, h, q4, q5, q6⟩
theorem useL_ok (R : Rel K B G δ σ H) : ∀ {vs : List V} {os : List Opd} {k : List PyData → Prop}, OpdsOk K G σ vs os → useL os δ k → ∃ xs, k xs ∧ BorL K G H vs xs
  | _, [], _, h, q => by cases h; exact ⟨[], q, .nil⟩
  | _, o :: os, k, h, q => by
    cases h with
    | cons a b =>
      obtain ⟨x, q1, b1⟩ := use_ok R a q
      obtain ⟨xs, q2, b2⟩ := useL_ok R b q1
      exact ⟨x :: xs, q2, .cons b1 b2⟩
theorem lkL_ok : ∀ {vs : List V} {os : List Opd} {G : Hp} {δ : DS} {k : List PyData → DS → Prop}, Rel K B G δ σ H → OpdsOk K G σ vs os → lkL os δ k → ∃ G' δ' xs, k xs δ' ∧ Same G G' ∧ Rel K B G' δ' σ H ∧ DnL K G' vs xs
  | _, [], G, δ, _, R, h, q => by cases h; exact ⟨G, δ, [], q, Same.refl _, R, .nil⟩
  | _, o :: os, G, δ, k, R, h, q => by
    cases h with
    | cons a b =>
      obtain ⟨G1, δ1, x, q1, s1, R1, d1⟩ := lk_ok R a q
      obtain ⟨G2, δ2, xs, q2, s2, R2, d2⟩ := lkL_ok R1 (b.mono s1) q1
      exact ⟨G2, δ2, x :: xs, q2, s1.trans s2, R2, .cons (d1.mono s2) d2⟩
end

/-! ### judgements -/
abbrev DE := DS → (Opd → DS → Prop) → Prop
abbrev DT := DS → (Bool → DS → Prop) → Prop
abbrev DA := DS → (List Opd → DS → Prop) → Prop
abbrev DL := DS → (List PyData → DS → Prop) → Prop
def up (K : PySem.W.Frag) (w : DE) : TE := fun σ H Q => ∃ B G δ R, Rel K B G δ σ H ∧ w δ R ∧ ∀ v H' G' o δ', R o δ' → Same G G' → Rel K B G' δ' σ H' → OpdOk K G' σ v o → Q v H'
def upT (K : PySem.W.Frag) (w : DT) : TT := fun σ H Q => ∃ B G δ R, Rel K B G δ σ H ∧ w δ R ∧ ∀ b H' G' δ', R b δ' → Same G G' → Rel K B G' δ' σ H' → Q b H'
def upA (K : PySem.W.Frag) (w : DA) : TA := fun σ H Q => ∃ B G δ R, Rel K B G δ σ H ∧ w δ R ∧ ∀ vs H' G' os δ', R os δ' → Same G G' → Rel K B G' δ' σ H' → OpdsOk K G' σ vs os → Q vs H'
/-- a fresh list, in nobody's hands yet -/
def upL (K : PySem.W.Frag) (w : DL) : TE := fun σ H Q => ∃ B G δ R, Rel K B G δ σ H ∧ w δ R ∧ ∀ a vs H' G' xs δ', R xs δ' → Same G G' → Rel K (upd B a (.lst vs)) G' δ' σ H' → B a = none → DnL K G' vs xs → Q (.ref a) H'
abbrev JE (X : Cx) (e : Expr) (w : DE) : Prop := PE X e (up X.K w)
abbrev JT (X : Cx) (e : Expr) (w : DT) : Prop := PT X e (upT X.K w)
abbrev JW (X : Cx) (e : Expr) (w : DT) : Prop := PW X e (upT X.K w)
abbrev JA (X : Cx) (es : List Expr) (w : DA) : Prop := PA X es (upA X.K w)
abbrev JL (X : Cx) (e : Expr) (w : DL) : Prop := PE X e (upL X.K w)
section
variable {X : Cx} {e a b c : Expr} {es : List Expr} {pos : Pos}
theorem pe_le {t t' : TE} (h : PE X e t) (l : ∀ pins s σ H Q, Inv X pins σ H s → t' σ H Q → t σ H Q) : PE X e t' := ⟨fun pins s σ H Q I q => h.run pins s σ H Q I (l pins s σ H Q I q)⟩
theorem pt_le {t t' : TT} (h : PT X e t) (l : ∀ pins s σ H Q, Inv X pins σ H s → t' σ H Q → t σ H Q) : PT X e t' := ⟨fun pins s σ H Q I q => h.run pins s σ H Q I (l pins s σ H Q I q)⟩
theorem pw_le {t t' : TT} (h : PW X e t) (l : ∀ pins s σ H Q, Inv X pins σ H s → t' σ H Q → t σ H Q) : PW X e t' := ⟨fun wh pins s σ H Q I q => h.run wh pins s σ H Q I (l pins s σ H Q I q)⟩
theorem pa_le {t t' : TA} (h : PA X es t) (l : ∀ pins s σ H Q, Inv X pins σ H s → t' σ H Q → t σ H Q) : PA X es t' := ⟨fun pos pins s σ H Q I q => h.run pos pins s σ H Q I (l pins s σ H Q I q)⟩
/-- a fresh list is given away at once -/
def wOfL (w : DL) : DE := fun δ R => w δ fun xs δ' => R (.d (.list xs)) δ'
theorem je_ofL {w : DL} (h : JL X e w) : JE X e (wOfL w) := pe_le h fun pins s σ H Q I ⟨B, G, δ, R, rel, hw, k⟩ => by
  refine ⟨B, G, δ, _, rel, hw, fun a vs H' G' xs δ' r sG rel' hB t => ?_⟩
  obtain ⟨rel2, s2⟩ := rel'.takeB (p := a) hB (fun b hb => (upd_ne hb).symm) upd_same
  exact k _ H' _ _ _ r (sG.trans s2) rel2 (Dn.lst upd_same (t.mono s2))

/-! ### names, constants -/
def wVar (i : Nat) : DE := fun δ R => match δ[i]? with
  | some (.d x) => R (.d x) δ
  | some .em => False
  | none => False
  | _ => R (.s i) δ
theorem je_var {i : Nat} {x : Str} (h : PE X (.Name x pos) (tVar i)) : JE X (.Name x pos) (wVar i) := pe_le h fun pins s σ H Q I ⟨B, G, δ, R, rel, hw, k⟩ => by
  unfold wVar at hw
  cases e : δ[i]? with
  | none => rw [e] at hw; exact hw.elim
  | some c =>
    rw [e] at hw
    obtain ⟨w, hw', co⟩ := rel.at e
    cases c with
    | em => exact hw.elim
    | d x =>
      obtain ⟨v, rfl, q⟩ := co
      exact ⟨v, hw', k v H G _ _ hw (Same.refl _) rel q⟩
    | ol a xs =>
      obtain ⟨rfl, _⟩ := co
      exact ⟨_, hw', k _ H G _ _ hw (Same.refl _) rel hw'⟩
    | dk a b c =>
      obtain ⟨rfl, _⟩ := co
      exact ⟨_, hw', k _ H G _ _ hw (Same.refl _) rel hw'⟩
    | xc a cls d x =>
      obtain ⟨rfl, _⟩ := co
      exact ⟨_, hw', k _ H G _ _ hw (Same.refl _) rel hw'⟩
    | scr a ns =>
      obtain ⟨rfl, _⟩ := co
      exact ⟨_, hw', k _ H G _ _ hw (Same.refl _) rel hw'⟩
    | od a kvs =>
      obtain ⟨rfl, _⟩ := co
      exact ⟨_, hw', k _ H G _ _ hw (Same.refl _) rel hw'⟩
    | dx a b c xs n ys =>
      obtain ⟨rfl, _⟩ := co
      exact ⟨_, hw', k _ H G _ _ hw (Same.refl _) rel hw'⟩
def wC (x : PyData) : DE := fun δ R => R (.d x) δ
theorem je_c {v : V} {x : PyData} (h : PE X e (tC v)) (hv : ∀ K G, Dn K G v x) : JE X e (wC x) := pe_le h fun pins s σ H Q I ⟨B, G, δ, R, rel, hw, k⟩ => k v H G _ _ hw (Same.refl _) rel (hv _ _)
theorem je_int {i j} : JE X (.Constant (.int i) j pos) (wC (.int i)) := je_c pe_int fun _ _ => .int i
theorem je_str {i j} : JE X (.Constant (.str i) j pos) (wC (.str i)) := je_c pe_str fun _ _ => .str i
theorem je_bl {i j} : JE X (.Constant (.bool i) j pos) (wC (.bool i)) := je_c pe_bl fun _ _ => .bl i
theorem je_non {j} : JE X (.Constant .none j pos) (wC .none) := je_c pe_non fun _ _ => .non

/-! ### argument lists -/
def wNil : DA := fun δ R => R [] δ
def wCons (w : DE) (r : DA) : DA := fun δ R => w δ fun o δ1 => r δ1 fun os δ2 => R (o :: os) δ2
theorem ja_nil : JA X [] wNil := pa_le pa_nil fun pins s σ H Q I ⟨B, G, δ, R, rel, hw, k⟩ => k [] H G _ _ hw (Same.refl _) rel .nil
theorem ja_cons {w : DE} {r : DA} (ha : JE X e w) (hr : JA X es r) (hs : starEach (e :: es) X.env = (false, eval e X.env) :: starEach es X.env := by rfl) : JA X (e :: es) (wCons w r) :=
  pa_le (pa_cons ha hr hs) fun pins s σ H Q I ⟨B, G, δ, R, rel, hw, k⟩ =>
    ⟨B, G, δ, _, rel, hw, fun v H1 G1 o δ1 r1 s1 rel1 ok1 => ⟨B, G1, δ1, _, rel1, r1, fun vs H2 G2 os δ2 r2 s2 rel2 ok2 => k (v :: vs) H2 G2 _ _ r2 (s1.trans s2) rel2 (.cons (ok1.mono s2) ok2)⟩⟩

/-! ### operators by data -/
abbrev P2 := PyData → PyData → (PyData → Prop) → Prop
abbrev PN := List PyData → (PyData → Prop) → Prop
def rOf (K : PySem.W.Frag) (p : P2) : R2 := fun x y H Q => ∃ B G δ σ dx dy R, Rel K B G δ σ H ∧ Bor K G H x dx ∧ Bor K G H y dy ∧ p dx dy R ∧ ∀ v H' G' z, R z → Same G G' → Rel K B G' δ σ H' → Dn K G' v z → Q v H'
abbrev OpD (X : Cx) (f : Value → Value → Sem Value) (p : P2) : Prop := OpR X f (rOf X.K p)
def wOp (p : P2) (wa wb : DE) : DE := fun δ R => wa δ fun o1 δ1 => wb δ1 fun o2 δ2 => use o1 δ2 fun x => use o2 δ2 fun y => p x y fun z => R (.d z) δ2
theorem op_up {p : P2} {wa wb : DE} {K : PySem.W.Frag} {σ : L2.St} {H : Hp} {Q : VK} (h : up K (wOp p wa wb) σ H Q) : tOp (rOf K p) (up K wa) (up K wb) σ H Q := by
  obtain ⟨B, G, δ, R, rel, hw, k⟩ := h
  refine ⟨B, G, δ, _, rel, hw, fun v H1 G1 o1 δ1 r1 s1 rel1 ok1 => ⟨B, G1, δ1, _, rel1, r1, fun u H2 G2 o2 δ2 r2 s2 rel2 ok2 => ?_⟩⟩
  obtain ⟨x, q1, b1⟩ := use_ok rel2 (ok1.mono s2) r2
  obtain ⟨y, q2, b2⟩ := use_ok rel2 ok2 q1
  exact ⟨B, G2, δ2, σ, x, y, _, rel2, b1, b2, q2, fun v' H' G' z rz s3 rel3 dz => k v' H' G' _ _ rz (s1.trans (s2.trans s3)) rel3 dz⟩
theorem je_op {p : P2} {op : Operator} {wa wb : DE} (ho : OpD X (binaryOp op) p) (ha : JE X a wa) (hb : JE X b wb) : JE X (.BinOp a op b pos) (wOp p wa wb) :=
  pe_le (pe_op ho ha hb) fun _ _ _ _ _ _ h => op_up h
theorem je_cmp {p : P2} {op : CmpOp} {wa wb : DE} (ho : OpD X (compareOp op) p) (ha : JE X a wa) (hb : JE X b wb) (hm : behindInMarks op b = false := by rfl) : JE X (.Compare a [op] [b] pos) (wOp p wa wb) :=
  pe_le (pe_cmpR ho ha hb hm) fun _ _ _ _ _ _ h => op_up h
/-- a test by a value that is True or False -/
def wB (w : DE) : DT := fun δ R => w δ fun o δ1 => use o δ1 fun x => ∃ b, x = .bool b ∧ R b δ1
theorem dn_bool {K : PySem.W.Frag} {G : Hp} {v : V} {b : Bool} (h : Dn K G v (.bool b)) : v = .bl b := by cases h; rfl
theorem dn_int {K : PySem.W.Frag} {G : Hp} {v : V} {b : Int} (h : Dn K G v (.int b)) : v = .int b := by cases h; rfl
theorem dn_str {K : PySem.W.Frag} {G : Hp} {v : V} {b : Str} (h : Dn K G v (.str b)) : v = .str b := by cases h; rfl
theorem dn_none {K : PySem.W.Frag} {G : Hp} {v : V} (h : Dn K G v .none) : v = .non := by cases h; rfl
theorem bor_bool {K : PySem.W.Frag} {G H : Hp} {v : V} {b : Bool} (h : Bor K G H v (.bool b)) : v = .bl b := by
  rcases h with h | ⟨_, _, _, _, e, _⟩
  · exact dn_bool h
  · cases e
theorem bor_int {K : PySem.W.Frag} {G H : Hp} {v : V} {b : Int} (h : Bor K G H v (.int b)) : v = .int b := by
  rcases h with h | ⟨_, _, _, _, e, _⟩
  · exact dn_int h
  · cases e
theorem bor_str {K : PySem.W.Frag} {G H : Hp} {v : V} {b : Str} (h : Bor K G H v (.str b)) : v = .str b := by
  rcases h with h | ⟨_, _, _, _, e, _⟩
  · exact dn_str h
  · cases e
theorem bor_none {K : PySem.W.Frag} {G H : Hp} {v : V} (h : Bor K G H v .none) : v = .non := by
  rcases h with h | ⟨_, _, _, _, e, _⟩
  · exact dn_none h
  · cases e
theorem bor_tup {K : PySem.W.Frag} {G H : Hp} {v : V} {ds : List PyData} (h : Bor K G H v (.tuple ds)) : ∃ a vs, v = .ref a ∧ SqT K G a vs ∧ DnL K G vs ds := by
  rcases h with h | ⟨_, _, _, _, e, _⟩
  · cases h with | tup h t => exact ⟨_, _, rfl, SqT.of h, t⟩
  · cases e
theorem bor_tupS {K : PySem.W.Frag} {G H : Hp} {v : V} {ds : List PyData} (h : Bor K G H v (.tuple ds)) : ∃ a vs, v = .ref a ∧ G a = some (.tup vs) ∧ DnL K G vs ds := by
  rcases h with h | ⟨_, _, _, _, e, _⟩
  · cases h with | tup h t => exact ⟨_, _, rfl, h, t⟩
  · cases e
/-- a list: its items stand for what never changes; it can be read where the heap stands now -/
theorem bor_lst {K : PySem.W.Frag} {B G H : Hp} {δ : DS} {σ : L2.St} {v : V} {ds : List PyData} (R : Rel K B G δ σ H) (h : Bor K G H v (.list ds)) : ∃ a vs, v = .ref a ∧ H a = some (.lst vs) ∧ DnL K G vs ds := by
  rcases h with h | ⟨a, vs, xs, rfl, e, q, t⟩
  · cases h with | lst h t => exact ⟨_, _, rfl, R.sg _ _ h, t⟩
  · cases e; exact ⟨a, vs, rfl, q, t⟩
theorem b_up {w : DE} {K : PySem.W.Frag} {σ : L2.St} {H : Hp} {Q : Bool → Hp → Prop} (h : upT K (wB w) σ H Q) : up K w σ H fun x H1 => ∃ c, x = .bl c ∧ Q c H1 := by
  obtain ⟨B, G, δ, R, rel, hw, k⟩ := h
  refine ⟨B, G, δ, _, rel, hw, fun v H1 G1 o1 δ1 r1 s1 rel1 ok1 => ?_⟩
  obtain ⟨x, ⟨b, rfl, q⟩, b1⟩ := use_ok rel1 ok1 r1
  exact ⟨b, bor_bool b1, k b H1 G1 _ q s1 rel1⟩
theorem jt_val {w : DE} (h : JE X e w) (he : ∀ whole, isTrue e X.env whole = (do let v ← whole; standAt e.pos; holding [v] (truthy v)) := by intro _; rfl) : JT X e (wB w) :=
  pt_le (pt_val h he) fun _ _ _ _ _ _ h => b_up h
theorem jt_cmp {p : P2} {op : CmpOp} {wa wb : DE} (ho : OpD X (compareOp op) p) (ha : JE X a wa) (hb : JE X b wb) (hm : behindInMarks op b = false := by rfl) : JT X (.Compare a [op] [b] pos) (wB (wOp p wa wb)) :=
  pt_le (pt_cmpR ho ha hb hm) fun _ _ _ _ _ _ h => by
    have h2 := b_up h
    exact op_up h2
/-! ### chains -/
def wChain (p q : P2) (wa wb wc : DE) : DE := fun δ R => wa δ fun o1 δ1 => wb δ1 fun o2 δ2 => use o1 δ2 fun x => use o2 δ2 fun y => p x y fun z => ∃ k, z = .bool k ∧
  if k = true then wc δ2 fun o3 δ3 => use o2 δ3 fun y => use o3 δ3 fun w => q y w fun z => R (.d z) δ3 else R (.d (.bool false)) δ2
theorem chain_up {p q : P2} {wa wb wc : DE} {K : PySem.W.Frag} {σ : L2.St} {H : Hp} {Q : VK} (h : up K (wChain p q wa wb wc) σ H Q) : tChain (rOf K p) (rOf K q) (up K wa) (up K wb) (up K wc) σ H Q := by
  obtain ⟨B, G, δ, R, rel, hw, k⟩ := h
  refine ⟨B, G, δ, _, rel, hw, fun v H1 G1 o1 δ1 r1 s1 rel1 ok1 => ⟨B, G1, δ1, _, rel1, r1, fun u H2 G2 o2 δ2 r2 s2 rel2 ok2 => ?_⟩⟩
  obtain ⟨x, q1, b1⟩ := use_ok rel2 (ok1.mono s2) r2
  obtain ⟨y, q2, b2⟩ := use_ok rel2 ok2 q1
  refine ⟨B, G2, δ2, σ, x, y, _, rel2, b1, b2, q2, fun v' H' G' z rz s3 rel3 dz => ?_⟩
  obtain ⟨kb, rfl, rz⟩ := rz
  refine ⟨kb, dn_bool dz, ?_⟩
  cases kb with
  | false =>
    rw [if_neg Bool.false_ne_true] at rz ⊢
    exact k _ H' G' _ _ rz (s1.trans (s2.trans s3)) rel3 (Dn.bl false)
  | true =>
    rw [if_pos rfl] at rz ⊢
    refine ⟨B, G', δ2, _, rel3, rz, fun w H4 G4 o3 δ4 r4 s4 rel4 ok4 => ?_⟩
    obtain ⟨y', q3, b3⟩ := use_ok rel4 (ok2.mono (s3.trans s4)) r4
    obtain ⟨w', q4, b4⟩ := use_ok rel4 ok4 q3
    exact ⟨B, G4, δ4, σ, y', w', _, rel4, b3, b4, q4, fun v' H' G5 z rz s5 rel5 dz => k v' H' G5 _ _ rz (s1.trans (s2.trans (s3.trans (s4.trans s5)))) rel5 dz⟩
theorem je_chain {p q : P2} {op op' : CmpOp} {wa wb wc : DE} (ho : OpD X (compareOp op) p) (ho' : OpD X (compareOp op') q) (ha : JE X a wa) (hb : JE X b wb) (hc : JE X c wc) (hm : lastMarks [op, op'] [b, c] = false := by rfl) : JE X (.Compare a [op, op'] [b, c] pos) (wChain p q wa wb wc) :=
  pe_le (pe_chain ho ho' ha hb hc (hm := hm)) fun _ _ _ _ _ _ h => chain_up h
theorem jt_chain {p q : P2} {op op' : CmpOp} {wa wb wc : DE} (ho : OpD X (compareOp op) p) (ho' : OpD X (compareOp op') q) (ha : JE X a wa) (hb : JE X b wb) (hc : JE X c wc) (hm : lastMarks [op, op'] [b, c] = false := by rfl) : JT X (.Compare a [op, op'] [b, c] pos) (wB (wChain p q wa wb wc)) :=
  pt_le (pt_chain ho ho' ha hb hc (hm := hm)) fun _ _ _ _ _ _ h => by
    have h2 := b_up h
    exact chain_up h2

/-! ### and, or, not -/
variable {rest : List Expr}
def wAnd (t u : DT) : DT := fun δ R => t δ fun k δ1 => if k = true then u δ1 R else R false δ1
def wOr (t u : DT) : DT := fun δ R => t δ fun k δ1 => if k = true then R true δ1 else u δ1 R
def wNot (t : DT) : DT := fun δ R => t δ fun k δ1 => R (!k) δ1
theorem jw_and1 {t : DT} (h : JT X a t) : JW X (.BoolOp .And [a] pos) t := pw_and1 h
theorem jw_or1 {t : DT} (h : JT X a t) : JW X (.BoolOp .Or [a] pos) t := pw_or1 h
theorem jw_and {t u : DT} (ha : JT X a t) (hb : JW X (.BoolOp .And (b :: rest) pos) u) : JW X (.BoolOp .And (a :: b :: rest) pos) (wAnd t u) :=
  pw_le (pw_and ha hb) fun pins s σ H Q I ⟨B, G, δ, R, rel, hw, k⟩ => ⟨B, G, δ, _, rel, hw, fun c H1 G1 δ1 r1 s1 rel1 => by
    cases c with
    | true => rw [if_pos rfl] at r1 ⊢; exact ⟨B, G1, δ1, _, rel1, r1, fun b H2 G2 δ2 r2 s2 rel2 => k b H2 G2 δ2 r2 (s1.trans s2) rel2⟩
    | false => rw [if_neg Bool.false_ne_true] at r1 ⊢; exact k false H1 G1 δ1 r1 s1 rel1⟩
theorem jw_or {t u : DT} (ha : JT X a t) (hb : JW X (.BoolOp .Or (b :: rest) pos) u) : JW X (.BoolOp .Or (a :: b :: rest) pos) (wOr t u) :=
  pw_le (pw_or ha hb) fun pins s σ H Q I ⟨B, G, δ, R, rel, hw, k⟩ => ⟨B, G, δ, _, rel, hw, fun c H1 G1 δ1 r1 s1 rel1 => by
    cases c with
    | false => rw [if_neg Bool.false_ne_true] at r1 ⊢; exact ⟨B, G1, δ1, _, rel1, r1, fun b H2 G2 δ2 r2 s2 rel2 => k b H2 G2 δ2 r2 (s1.trans s2) rel2⟩
    | true => rw [if_pos rfl] at r1 ⊢; exact k true H1 G1 δ1 r1 s1 rel1⟩
theorem jt_w {t : DT} (h : JW X e t) : JT X e t := PW.pt h
theorem jt_not {t : DT} (h : JT X a t) : JT X (.UnaryOp .Not a pos) (wNot t) :=
  pt_le (pt_not h) fun pins s σ H Q I ⟨B, G, δ, R, rel, hw, k⟩ => ⟨B, G, δ, _, rel, hw, fun c H1 G1 δ1 r1 s1 rel1 => k (!c) H1 G1 δ1 r1 s1 rel1⟩
/-- .. as values, True and False alone -/
def wAndV (w u : DE) : DE := fun δ R => w δ fun o δ1 => use o δ1 fun x => ∃ k, x = .bool k ∧ if k = true then u δ1 R else R (.d (.bool false)) δ1
def wOrV (w u : DE) : DE := fun δ R => w δ fun o δ1 => use o δ1 fun x => ∃ k, x = .bool k ∧ if k = true then R (.d (.bool true)) δ1 else u δ1 R
def wNotV (w : DE) : DE := fun δ R => w δ fun o δ1 => use o δ1 fun x => ∃ k, x = .bool k ∧ R (.d (.bool (!k))) δ1
theorem je_one {op} {w : DE} (h : JE X a w) : JE X (.BoolOp op [a] pos) w := pe_one h
theorem je_and {w u : DE} (ha : JE X a w) (hb : JE X (.BoolOp .And (b :: rest) pos) u) : JE X (.BoolOp .And (a :: b :: rest) pos) (wAndV w u) :=
  pe_le (pe_and ha hb) fun pins s σ H Q I ⟨B, G, δ, R, rel, hw, k⟩ => ⟨B, G, δ, _, rel, hw, fun v H1 G1 o δ1 r1 s1 rel1 ok1 => by
    obtain ⟨x, ⟨c, rfl, q⟩, b1⟩ := use_ok rel1 ok1 r1
    refine ⟨c, bor_bool b1, ?_⟩
    cases c with
    | true => rw [if_pos rfl] at q ⊢; exact ⟨B, G1, δ1, _, rel1, q, fun b H2 G2 o2 δ2 r2 s2 rel2 ok2 => k b H2 G2 o2 δ2 r2 (s1.trans s2) rel2 ok2⟩
    | false => rw [if_neg Bool.false_ne_true] at q ⊢; exact k _ H1 G1 _ δ1 q s1 rel1 (Dn.bl false)⟩
theorem je_or {w u : DE} (ha : JE X a w) (hb : JE X (.BoolOp .Or (b :: rest) pos) u) : JE X (.BoolOp .Or (a :: b :: rest) pos) (wOrV w u) :=
  pe_le (pe_or ha hb) fun pins s σ H Q I ⟨B, G, δ, R, rel, hw, k⟩ => ⟨B, G, δ, _, rel, hw, fun v H1 G1 o δ1 r1 s1 rel1 ok1 => by
    obtain ⟨x, ⟨c, rfl, q⟩, b1⟩ := use_ok rel1 ok1 r1
    refine ⟨c, bor_bool b1, ?_⟩
    cases c with
    | false => rw [if_neg Bool.false_ne_true] at q ⊢; exact ⟨B, G1, δ1, _, rel1, q, fun b H2 G2 o2 δ2 r2 s2 rel2 ok2 => k b H2 G2 o2 δ2 r2 (s1.trans s2) rel2 ok2⟩
    | true => rw [if_pos rfl] at q ⊢; exact k _ H1 G1 _ δ1 q s1 rel1 (Dn.bl true)⟩
theorem je_not {w : DE} (h : JE X a w) : JE X (.UnaryOp .Not a pos) (wNotV w) :=
  pe_le (pe_not h) fun pins s σ H Q I ⟨B, G, δ, R, rel, hw, k⟩ => ⟨B, G, δ, _, rel, hw, fun v H1 G1 o δ1 r1 s1 rel1 ok1 => by
    obtain ⟨x, ⟨c, rfl, q⟩, b1⟩ := use_ok rel1 ok1 r1
    exact ⟨c, bor_bool b1, k _ H1 G1 _ δ1 q s1 rel1 (Dn.bl _)⟩⟩
def wIfE (t : DT) (wa wb : DE) : DE := fun δ R => t δ fun k δ1 => if k = true then wa δ1 R else wb δ1 R
theorem je_ifE {t : DT} {wa wb : DE} (hc : JT X c t) (ha : JE X a wa) (hb : JE X b wb) : JE X (.IfExp c a b pos) (wIfE t wa wb) :=
  pe_le (pe_ifExp hc ha hb) fun pins s σ H Q I ⟨B, G, δ, R, rel, hw, k⟩ => ⟨B, G, δ, _, rel, hw, fun d H1 G1 δ1 r1 s1 rel1 => by
    cases d with
    | true => rw [if_pos rfl] at r1 ⊢; exact ⟨B, G1, δ1, _, rel1, r1, fun b H2 G2 o2 δ2 r2 s2 rel2 ok2 => k b H2 G2 o2 δ2 r2 (s1.trans s2) rel2 ok2⟩
    | false => rw [if_neg Bool.false_ne_true] at r1 ⊢; exact ⟨B, G1, δ1, _, rel1, r1, fun b H2 G2 o2 δ2 r2 s2 rel2 ok2 => k b H2 G2 o2 δ2 r2 (s1.trans s2) rel2 ok2⟩⟩
/-! ### unary minus -/
def pNeg (x : PyData) (R : PyData → Prop) : Prop := match x with
  | .int i => R (.int (-i))
  | _ => False
def wUn (p : PyData → (PyData → Prop) → Prop) (w : DE) : DE := fun δ R => w δ fun o δ1 => use o δ1 fun x => p x fun z => R (.d z) δ1
theorem je_neg {w : DE} (h : JE X a w) : JE X (.UnaryOp .USub a pos) (wUn pNeg w) :=
  pe_le (pe_un un_neg h) fun pins s σ H Q I ⟨B, G, δ, R, rel, hw, k⟩ => ⟨B, G, δ, _, rel, hw, fun v H1 G1 o δ1 r1 s1 rel1 ok1 => by
    obtain ⟨x, q, b1⟩ := use_ok rel1 ok1 r1
    cases x with
    | int i => exact ⟨i, bor_int b1, k _ H1 G1 _ δ1 q s1 rel1 (Dn.int _)⟩
    | _ => exact q.elim⟩
/-! ### displays -/
def wTup (w : DA) : DE := fun δ R => w δ fun os δ1 => lkL os δ1 fun xs δ2 => xs.length ≤ 1000 ∧ R (.d (.tuple xs)) δ2
def wLst (w : DA) : DL := fun δ R => w δ fun os δ1 => lkL os δ1 fun xs δ2 => xs.length ≤ 1000 ∧ R xs δ2
theorem le_line {n : Nat} (h : n ≤ 1000) : n ≤ sizeLine := by rw [sizeLine_eq]; omega
theorem je_tup {w : DA} {x1} (h : JA X es w) : JE X (.Tuple es x1 pos) (wTup w) :=
  pe_le (pe_tup h) fun pins s σ H Q I ⟨B, G, δ, R, rel, hw, k⟩ => ⟨B, G, δ, _, rel, hw, fun vs H1 G1 os δ1 r1 s1 rel1 ok1 => by
    obtain ⟨G2, δ2, xs, ⟨hl, q⟩, s2, rel2, t⟩ := lkL_ok rel1 ok1 r1
    refine ⟨by rw [t.len]; exact le_line hl, fun p np => ?_⟩
    obtain ⟨rel3, s3⟩ := rel2.laid (o := .tup vs) np
    exact k _ _ _ _ _ q (s1.trans (s2.trans s3)) rel3 (Dn.tup upd_same (t.mono s3))⟩
theorem jl_lst {w : DA} (h : JA X es w) : JL X (.List es pos) (wLst w) :=
  pe_le (pe_lst h) fun pins s σ H Q I ⟨B, G, δ, R, rel, hw, k⟩ => ⟨B, G, δ, _, rel, hw, fun vs H1 G1 os δ1 r1 s1 rel1 ok1 => by
    obtain ⟨G2, δ2, xs, ⟨hl, q⟩, s2, rel2, t⟩ := lkL_ok rel1 ok1 r1
    refine ⟨by rw [t.len]; exact le_line hl, fun p np => ?_⟩
    exact k p vs _ _ _ _ q (s1.trans s2) (rel2.growB np) (rel2.freeB np) t⟩
/-- {} -/
def wDic : DE := fun δ R => R (.d (.dict [])) δ
def tDNewN : TE := fun _ H Q => ∀ p, H p = none → p ≠ sysModules → Q (.ref p) (upd H p (.dK []))
theorem pe_dnewN : PE X (.Dict [] [] pos) tDNewN := ⟨fun pins s σ H Q I h =>
  wpAny_Dict_empty ⟨.ref s.heap.objs.size, _, I.laid (a := s.heap.objs.size) (o := .dK []) (t' := s.toks) (fun _ _ q => Heap.get?_push_of_some _ q) (Nat.le_refl _) (dk_empty s.heap I.big), rfl, h _ (I.hok.fresh (Nat.le_refl _)) (by
    obtain ⟨mc, ⟨o, es, ep, ho, _⟩, _⟩ := I.ok.mod.nolimit
    have h1 := Heap.lt_size (I.bs _ _ ho).1
    intro e
    rw [e] at h1
    exact absurd h1 (by decide))⟩⟩
theorem je_dic : JE X (.Dict [] [] pos) wDic :=
  pe_le pe_dnewN fun pins s σ H Q I ⟨B, G, δ, R, rel, hw, k⟩ => fun p np n1 => by
    obtain ⟨rel3, s3⟩ := rel.laid (o := .dK []) np
    exact k _ _ _ _ _ hw s3 rel3 (Dn.dic upd_same n1)
/-! ### calls of built-ins, by data -/
def rOfN (K : PySem.W.Frag) (p : PN) : List V → Hp → VK → Prop := fun vs H Q => ∃ B G δ σ ds R, Rel K B G δ σ H ∧ BorL K G H vs ds ∧ p ds R ∧ ∀ v H' G' z, R z → Same G G' → Rel K B G' δ σ H' → Dn K G' v z → Q v H'
abbrev CallD (X : Cx) (f : Value) (p : PN) : Prop := CallR X f (rOfN X.K p)
def wFn (p : PN) (w : DA) : DE := fun δ R => w δ fun os δ1 => useL os δ1 fun xs => p xs fun z => R (.d z) δ1
theorem fn_up {p : PN} {w : DA} {K : PySem.W.Frag} {σ : L2.St} {H : Hp} {Q : VK} (h : up K (wFn p w) σ H Q) : tCB (rOfN K p) (upA K w) σ H Q := by
  obtain ⟨B, G, δ, R, rel, hw, k⟩ := h
  refine ⟨B, G, δ, _, rel, hw, fun vs H1 G1 os δ1 r1 s1 rel1 ok1 => ?_⟩
  obtain ⟨xs, q, b⟩ := useL_ok rel1 ok1 r1
  exact ⟨B, G1, δ1, σ, xs, _, rel1, b, q, fun v H' G' z rz s2 rel2 dz => k v H' G' _ _ rz (s1.trans s2) rel2 dz⟩
theorem je_fn {p : PN} {w : DA} {id : String} {x : Str} {px : Pos} (hc : CallD X (.builtin id) p) (hg : Gl X x) (hm : X.mg x = none) (hv : bootBuiltins x = some (.builtin id)) (ha : JA X (e :: es) w) (hn : x ≠ "__name__" := by decide) (hdb : (x == ("__debug__" : Str)) = false := by decide)
    (he : starEach (e :: es) X.env = (false, eval e X.env) :: starEach es X.env := by rfl) (hpl : (backTo pos (starEach es X.env)).any (·.1) = false := by rfl) : JE X (.Call (.Name x px) (e :: es) [] pos) (wFn p w) :=
  pe_le (pe_callB hc hg hm hv ha hn hdb he hpl) fun _ _ _ _ _ _ h => fn_up h
theorem je_ty {p : PN} {w : DA} {T : String} {x : Str} {px : Pos} (hc : CallD X (.type T) p) (hg : Gl X x) (hm : X.mg x = none) (hv : bootBuiltins x = some (.type T)) (ha : JA X (e :: es) w) (hn : x ≠ "__name__" := by decide) (hdb : (x == ("__debug__" : Str)) = false := by decide)
    (he : starEach (e :: es) X.env = (false, eval e X.env) :: starEach es X.env := by rfl) (hpl : (backTo pos (starEach es X.env)).any (·.1) = false := by rfl) : JE X (.Call (.Name x px) (e :: es) [] pos) (wFn p w) :=
  pe_le (pe_callTy hc hg hm hv ha hn hdb he hpl) fun _ _ _ _ _ _ h => fn_up h
/-! ### a list just made -/
def rOfNL (K : PySem.W.Frag) (p : List PyData → (List PyData → Prop) → Prop) : List V → Hp → VK → Prop := fun vs H Q => ∃ B G δ σ ds R, Rel K B G δ σ H ∧ BorL K G H vs ds ∧ p ds R ∧ ∀ a ws H' G' z, R z → Same G G' → Rel K (upd B a (.lst ws)) G' δ σ H' → B a = none → DnL K G' ws z → Q (.ref a) H'
abbrev CallDL (X : Cx) (f : Value) (p : List PyData → (List PyData → Prop) → Prop) : Prop := CallR X f (rOfNL X.K p)
def wFnL (p : List PyData → (List PyData → Prop) → Prop) (w : DA) : DL := fun δ R => w δ fun os δ1 => useL os δ1 fun xs => p xs fun z => R z δ1
theorem fnL_up {p : List PyData → (List PyData → Prop) → Prop} {w : DA} {K : PySem.W.Frag} {σ : L2.St} {H : Hp} {Q : VK} (h : upL K (wFnL p w) σ H Q) : tCB (rOfNL K p) (upA K w) σ H Q := by
  obtain ⟨B, G, δ, R, rel, hw, k⟩ := h
  refine ⟨B, G, δ, _, rel, hw, fun vs H1 G1 os δ1 r1 s1 rel1 ok1 => ?_⟩
  obtain ⟨xs, q, b⟩ := useL_ok rel1 ok1 r1
  exact ⟨B, G1, δ1, σ, xs, _, rel1, b, q, fun a ws H' G' z rz s2 rel2 hB dz => k a ws H' G' _ _ rz (s1.trans s2) rel2 hB dz⟩
theorem jl_ty {p : List PyData → (List PyData → Prop) → Prop} {w : DA} {T : String} {x : Str} {px : Pos} (hc : CallDL X (.type T) p) (hg : Gl X x) (hm : X.mg x = none) (hv : bootBuiltins x = some (.type T)) (ha : JA X (e :: es) w) (hn : x ≠ "__name__" := by decide) (hdb : (x == ("__debug__" : Str)) = false := by decide)
    (he : starEach (e :: es) X.env = (false, eval e X.env) :: starEach es X.env := by rfl) (hpl : (backTo pos (starEach es X.env)).any (·.1) = false := by rfl) : JL X (.Call (.Name x px) (e :: es) [] pos) (wFnL p w) :=
  pe_le (pe_callTy hc hg hm hv ha hn hdb he hpl) fun _ _ _ _ _ _ h => fnL_up h
theorem jl_fn {p : List PyData → (List PyData → Prop) → Prop} {w : DA} {id : String} {x : Str} {px : Pos} (hc : CallDL X (.builtin id) p) (hg : Gl X x) (hm : X.mg x = none) (hv : bootBuiltins x = some (.builtin id)) (ha : JA X (e :: es) w) (hn : x ≠ "__name__" := by decide) (hdb : (x == ("__debug__" : Str)) = false := by decide)
    (he : starEach (e :: es) X.env = (false, eval e X.env) :: starEach es X.env := by rfl) (hpl : (backTo pos (starEach es X.env)).any (·.1) = false := by rfl) : JL X (.Call (.Name x px) (e :: es) [] pos) (wFnL p w) :=
  pe_le (pe_callB hc hg hm hv ha hn hdb he hpl) fun _ _ _ _ _ _ h => fnL_up h
/-- xs + ys, xs * n -/
abbrev P2L := PyData → PyData → (List PyData → Prop) → Prop
def rOfL (K : PySem.W.Frag) (p : P2L) : R2 := fun x y H Q => ∃ B G δ σ dx dy R, Rel K B G δ σ H ∧ Bor K G H x dx ∧ Bor K G H y dy ∧ p dx dy R ∧ ∀ a ws H' G' z, R z → Same G G' → Rel K (upd B a (.lst ws)) G' δ σ H' → B a = none → DnL K G' ws z → Q (.ref a) H'
abbrev OpDL (X : Cx) (f : Value → Value → Sem Value) (p : P2L) : Prop := OpR X f (rOfL X.K p)
def wOpL (p : P2L) (wa wb : DE) : DL := fun δ R => wa δ fun o1 δ1 => wb δ1 fun o2 δ2 => use o1 δ2 fun x => use o2 δ2 fun y => p x y fun z => R z δ2
theorem opL_up {p : P2L} {wa wb : DE} {K : PySem.W.Frag} {σ : L2.St} {H : Hp} {Q : VK} (h : upL K (wOpL p wa wb) σ H Q) : tOp (rOfL K p) (up K wa) (up K wb) σ H Q := by
  obtain ⟨B, G, δ, R, rel, hw, k⟩ := h
  refine ⟨B, G, δ, _, rel, hw, fun v H1 G1 o1 δ1 r1 s1 rel1 ok1 => ⟨B, G1, δ1, _, rel1, r1, fun u H2 G2 o2 δ2 r2 s2 rel2 ok2 => ?_⟩⟩
  obtain ⟨x, q1, b1⟩ := use_ok rel2 (ok1.mono s2) r2
  obtain ⟨y, q2, b2⟩ := use_ok rel2 ok2 q1
  exact ⟨B, G2, δ2, σ, x, y, _, rel2, b1, b2, q2, fun a ws H' G' z rz s3 rel3 hB dz => k a ws H' G' _ _ rz (s1.trans (s2.trans s3)) rel3 hB dz⟩
theorem jl_op {p : P2L} {op : Operator} {wa wb : DE} (ho : OpDL X (binaryOp op) p) (ha : JE X a wa) (hb : JE X b wb) : JL X (.BinOp a op b pos) (wOpL p wa wb) :=
  pe_le (pe_op ho ha hb) fun _ _ _ _ _ _ h => opL_up h
/-! ### subscripts and slices -/
abbrev IxD (X : Cx) (p : P2) : Prop := IxR X (rOf X.K p)
theorem je_ix {p : P2} {wa wb : DE} (hr : IxD X p) (ha : JE X a wa) (hb : JE X b wb) (hs : PlainIx b) : JE X (.Subscript a b pos) (wOp p wa wb) :=
  pe_le (pe_ix hr ha hb hs) fun _ _ _ _ _ _ h => op_up h
abbrev DO := DS → (Option Int → DS → Prop) → Prop
def upO (K : PySem.W.Frag) (w : DO) : TO := fun σ H Q => ∃ B G δ R, Rel K B G δ σ H ∧ w δ R ∧ ∀ i H' G' δ', R i δ' → Same G G' → Rel K B G' δ' σ H' → Q i H'
abbrev JO (X : Cx) (e : Option Expr) (w : DO) : Prop := PO X e (upO X.K w)
def wNoP : DO := fun δ R => R none δ
def wPart (w : DE) : DO := fun δ R => w δ fun o δ1 => use o δ1 fun x => ∃ i, x = .int i ∧ R (some i) δ1
theorem po_le {e : Option Expr} {t t' : TO} (h : PO X e t) (l : ∀ pins s σ H Q, Inv X pins σ H s → t' σ H Q → t σ H Q) : PO X e t' := ⟨fun pins s σ H Q I q => h.run pins s σ H Q I (l pins s σ H Q I q)⟩
theorem jo_none : JO X none wNoP := po_le po_none fun pins s σ H Q I ⟨B, G, δ, R, rel, hw, k⟩ => k none H G δ hw (Same.refl _) rel
theorem jo_some {w : DE} (h : JE X e w) : JO X (some e) (wPart w) := po_le (po_some h) fun pins s σ H Q I ⟨B, G, δ, R, rel, hw, k⟩ => ⟨B, G, δ, _, rel, hw, fun v H1 G1 o δ1 r1 s1 rel1 ok1 => by
  obtain ⟨x, ⟨i, rfl, q⟩, b⟩ := use_ok rel1 ok1 r1
  exact ⟨i, bor_int b, k _ H1 G1 δ1 q s1 rel1⟩⟩
abbrev P3 := PyData → Option Int → Option Int → (PyData → Prop) → Prop
def rOfS (K : PySem.W.Frag) (p : P3) : V → Option Int → Option Int → Hp → VK → Prop := fun x lo hi H Q => ∃ B G δ σ dx R, Rel K B G δ σ H ∧ Bor K G H x dx ∧ p dx lo hi R ∧ ∀ v H' G' z, R z → Same G G' → Rel K B G' δ σ H' → Dn K G' v z → Q v H'
def wSl (p : P3) (w : DE) (l h : DO) : DE := fun δ R => w δ fun o δ1 => l δ1 fun i δ2 => h δ2 fun j δ3 => use o δ3 fun x => p x i j fun z => R (.d z) δ3
theorem je_sl {p : P3} {w : DE} {l h : DO} {lo hi : Option Expr} {p2 : Pos} (hr : SlR X (rOfS X.K p)) (he : JE X e w) (hl : JO X lo l) (hh : JO X hi h) : JE X (.Subscript e (.Slice lo hi none p2) pos) (wSl p w l h) :=
  pe_le (pe_slice hr he hl hh) fun pins s σ H Q I ⟨B, G, δ, R, rel, hw, k⟩ => ⟨B, G, δ, _, rel, hw, fun v H1 G1 o δ1 r1 s1 rel1 ok1 => ⟨B, G1, δ1, _, rel1, r1, fun i H2 G2 δ2 r2 s2 rel2 => ⟨B, G2, δ2, _, rel2, r2, fun j H3 G3 δ3 r3 s3 rel3 => by
    obtain ⟨x, q, b⟩ := use_ok rel3 (ok1.mono (s2.trans s3)) r3
    exact ⟨B, G3, δ3, σ, x, _, rel3, b, q, fun v' H' G' z rz s4 rel4 dz => k v' H' G' _ _ rz (s1.trans (s2.trans (s3.trans s4))) rel4 dz⟩⟩⟩⟩
end
end DL
set_option Elab.async false
set_option linter.all false
set_option maxRecDepth 100000
set_option maxHeartbeats 4000000
namespace DL
open PySem PySem.Spec PyProof.Rows L2
variable [Tb]

/-! ### data without dicts, as the hand layer reads it -/
mutual
theorem Dn.dp {K : PySem.W.Frag} {H : Hp} : ∀ (d : PyData) {v : V}, d.hasDict = false → Dn K H v d → Dp K H v d
  | .none, _, _, h => by cases h; exact .non
  | .bool b, _, _, h => by cases h; exact .bl b
  | .int i, _, _, h => by cases h; exact .int i
  | .str x, _, _, h => by cases h; exact .str x
  | .list ds, _, z, h => by cases h with | lst h t => exact .lst (SqL.of h) (DnL.dp ds (by simpa [PyData.hasDict] using z) t)
  | .tuple ds, _, z, h => by cases h with | tup h t => exact .tup (SqT.of h) (DnL.dp ds (by simpa [PyData.hasDict] using z) t)
  | .dict kvs, _, z, h => by simp [PyData.hasDict] at z
theorem DnL.dp {K : PySem.W.Frag} {H : Hp} : ∀ (ds : List PyData) {vs : List V}, PyData.hasDictAll ds = false → DnL K H vs ds → DpAll K H vs ds
  | [], _, _, h => by cases h; exact .nil
  | d :: ds, _, z, h => by
    have z' : d.hasDict = false ∧ PyData.hasDictAll ds = false := by simpa [PyData.hasDictAll] using z
    cases h with | cons a b => exact .cons (Dn.dp d z'.1 a) (DnL.dp ds z'.2 b)
end
theorem noDict_of_shaped {d : PyData} (h : SeqAt.shaped d = true) : d.hasDict = false := PyData.hasDict_of_canLay d (SeqAt.canLay_of_shaped h)

section
variable {X : Cx}
abbrev ints2 (f : Int → Int → (PyData → Prop) → Prop) : P2 := fun x y R => match x, y with
  | .int i, .int j => f i j R
  | _, _ => False
theorem opd_ints {f : Value → Value → Sem Value} {C : Int → Int → Prop} {g : Int → Int → Int} {p : Int → Int → (PyData → Prop) → Prop} (h : OpR X f (rI C fun i j => .int (g i j))) (hp : ∀ i j R, p i j R → C i j ∧ R (.int (g i j))) : OpD X f (ints2 p) := by
  intro pins s σ H x y v u Q I rx ry ⟨B, G, δ, σ', dx, dy, R, rel, bx, by', q, k⟩
  cases dx <;> cases dy <;> first | exact False.elim q | skip
  obtain ⟨c, r⟩ := hp _ _ _ q
  exact h pins s σ H x y v u Q I rx ry ⟨_, _, bor_int bx, bor_int by', c, k _ H G _ r (Same.refl _) rel (Dn.int _)⟩
theorem opd_ints0 {f : Value → Value → Sem Value} {g : Int → Int → Int} (h : OpR X f (rI0 fun i j => .int (g i j))) : OpD X f (ints2 fun i j R => R (.int (g i j))) := by
  intro pins s σ H x y v u Q I rx ry ⟨B, G, δ, σ', dx, dy, R, rel, bx, by', q, k⟩
  cases dx <;> cases dy <;> first | exact False.elim q | skip
  exact h pins s σ H x y v u Q I rx ry ⟨_, _, bor_int bx, bor_int by', k _ H G _ q (Same.refl _) rel (Dn.int _)⟩
theorem opd_bools {f : Value → Value → Sem Value} {g : Int → Int → Bool} (h : OpR X f (rI0 fun i j => .bl (g i j))) : OpD X f (ints2 fun i j R => R (.bool (g i j))) := by
  intro pins s σ H x y v u Q I rx ry ⟨B, G, δ, σ', dx, dy, R, rel, bx, by', q, k⟩
  cases dx <;> cases dy <;> first | exact False.elim q | skip
  exact h pins s σ H x y v u Q I rx ry ⟨_, _, bor_int bx, bor_int by', k _ H G _ q (Same.refl _) rel (Dn.bl _)⟩

/-! ### arithmetic -/
def pSub : P2 := ints2 fun i j R => R (.int (i - j))
def pMul : P2 := fun x y R => match x, y with
  | .int i, .int j => (CMul i j ∨ CMulW i j) ∧ R (.int (i * j))
  | .list xs, .int k => 0 ≤ k ∧ xs.length * k.toNat ≤ 1000000 ∧ k < 1000000 ∧ R (.list (List.replicate k.toNat xs).flatten)
  | _, _ => False
def pDiv : P2 := ints2 fun i j R => (0 < j ∧ j.natAbs.log2 < 9000) ∧ R (.int (i / j))
def pMod : P2 := ints2 fun i j R => 0 < j ∧ R (.int (i % j))
def pPow : P2 := ints2 fun i j R => CPow i j ∧ R (.int (i ^ j.toNat))
def pShl : P2 := ints2 fun i j R => CPow i j ∧ R (.int (i * 2 ^ j.toNat))
def pAnd : P2 := ints2 fun i j R => R (.int (Builtin.bitAnd i j))
def pOr : P2 := ints2 fun i j R => R (.int (Builtin.bitOr i j))
def pLt : P2 := fun x y R => match x, y with
  | .int i, .int j => R (.bool (decide (i < j)))
  | _, _ => False
def pLe : P2 := ints2 fun i j R => R (.bool (decide (i ≤ j)))
def pGt : P2 := ints2 fun i j R => R (.bool (decide (j < i)))
def pGe : P2 := ints2 fun i j R => R (.bool (decide (j ≤ i)))
def pAdd : P2 := fun x y R => match x, y with
  | .int i, .int j => R (.int (i + j))
  | .str a, .str b => a.length + b.length ≤ 1000000 ∧ R (.str (a ++ b))
  | .tuple xs, .tuple ys => xs.length + ys.length ≤ 1000000 ∧ R (.tuple (xs ++ ys))
  | .list xs, .list ys => xs.length + ys.length ≤ 1000000 ∧ R (.list (xs ++ ys))
  | _, _ => False
theorem million {n : Nat} (h : n ≤ 1000000) : n ≤ sizeLine := by rw [sizeLine_eq]; omega
theorem d_sub : OpD X (binaryOp .Sub) pSub := opd_ints0 op_sub
theorem d_div : OpD X (binaryOp .FloorDiv) pDiv := opd_ints op_fdivW fun i j R h => h
theorem d_mod : OpD X (binaryOp .Mod) pMod := opd_ints op_mod fun i j R h => h
theorem d_pow : OpD X (binaryOp .Pow) pPow := opd_ints op_pow fun i j R h => h
theorem d_shl : OpD X (binaryOp .LShift) pShl := opd_ints op_shl fun i j R h => h
theorem d_and : OpD X (binaryOp .BitAnd) pAnd := opd_ints0 op_and
theorem d_or : OpD X (binaryOp .BitOr) pOr := opd_ints0 op_or
theorem d_lt : OpD X (compareOp .Lt) pLt := by
  intro pins s σ H x y v u Q I rx ry ⟨B, G, δ, σ', dx, dy, R, rel, bx, by', q, k⟩
  cases dx <;> cases dy <;> first | exact False.elim q | skip
  exact op_lt pins s σ H x y v u Q I rx ry ⟨_, _, bor_int bx, bor_int by', k _ H G _ q (Same.refl _) rel (Dn.bl _)⟩
theorem d_le : OpD X (compareOp .LtE) pLe := opd_bools op_le
theorem d_gt : OpD X (compareOp .Gt) pGt := opd_bools op_gt
theorem d_ge : OpD X (compareOp .GtE) pGe := opd_bools op_ge
theorem DnL.nil_iff {K : PySem.W.Frag} {G : Hp} {vs : List V} {ds : List PyData} (t : DnL K G vs ds) : vs = [] ↔ ds = [] := by
  cases t with
  | nil => simp
  | cons a b => simp
theorem d_add : OpD X (binaryOp .Add) pAdd := by
  intro pins s σ H x y v u Q I rx ry ⟨B, G, δ, σ', dx, dy, R, rel, bx, by', q, k⟩
  cases dx <;> cases dy <;> first | exact False.elim q | skip
  · exact op_add pins s σ H x y v u Q I rx ry ⟨_, _, bor_int bx, bor_int by', k _ H G _ q (Same.refl _) rel (Dn.int _)⟩
  · exact op_add_str pins s σ H x y v u Q I rx ry ⟨_, _, bor_str bx, bor_str by', million q.1, k _ H G _ q.2 (Same.refl _) rel (Dn.str _)⟩
  · obtain ⟨a, xs, rfl, ha, ta⟩ := bor_lst rel bx
    obtain ⟨b, ys, rfl, hb, tb⟩ := bor_lst rel by'
    refine op_cat pins s σ H _ _ v u Q I rx ry ⟨a, b, xs, ys, rfl, rfl, ha, hb, by rw [ta.len, tb.len]; exact million q.1, fun p np => ?_⟩
    obtain ⟨rel3, s3⟩ := rel.laid (o := .lst (xs ++ ys)) np
    exact k _ _ _ _ q.2 s3 rel3 (Dn.lst upd_same ((ta.app tb).mono s3))
  · obtain ⟨a, xs, rfl, ha, ta⟩ := bor_tupS bx
    obtain ⟨b, ys, rfl, hb, tb⟩ := bor_tupS by'
    refine op_catA pins s σ H _ _ v u Q I rx ry ⟨a, b, xs, ys, rfl, rfl, sqT_mono rel.sg (SqT.of ha), sqT_mono rel.sg (SqT.of hb), by rw [ta.len, tb.len]; exact million q.1, fun e => ?_, fun e e2 => ?_, fun e1 e2 p np => ?_⟩
    · have e' := ta.nil_iff.mp e
      subst e e'
      exact k _ H G _ q.2 (Same.refl _) rel (Dn.tup hb (by simpa using tb))
    · have e' := tb.nil_iff.mp e2
      subst e2 e'
      exact k _ H G _ q.2 (Same.refl _) rel (Dn.tup ha (by simpa using ta))
    · obtain ⟨rel3, s3⟩ := rel.laid (o := .tup (xs ++ ys)) np
      exact k _ _ _ _ q.2 s3 rel3 (Dn.tup upd_same ((ta.app tb).mono s3))
theorem DnL.rep {K : PySem.W.Frag} {G : Hp} {vs : List V} {ds : List PyData} (t : DnL K G vs ds) : ∀ n : Nat, DnL K G (List.replicate n vs).flatten (List.replicate n ds).flatten
  | 0 => .nil
  | n + 1 => by
    rw [List.replicate_succ, List.replicate_succ, List.flatten_cons, List.flatten_cons]
    exact t.app (DnL.rep t n)
theorem d_mul : OpD X (binaryOp .Mult) pMul := by
  intro pins s σ H x y v u Q I rx ry ⟨B, G, δ, σ', dx, dy, R, rel, bx, by', q, k⟩
  cases dx <;> cases dy <;> first | exact False.elim q | skip
  · rcases q.1 with c | c
    · exact op_mul pins s σ H x y v u Q I rx ry ⟨_, _, bor_int bx, bor_int by', c, k _ H G _ q.2 (Same.refl _) rel (Dn.int _)⟩
    · exact op_mulW pins s σ H x y v u Q I rx ry ⟨_, _, bor_int bx, bor_int by', c, k _ H G _ q.2 (Same.refl _) rel (Dn.int _)⟩
  · obtain ⟨a, xs, rfl, ha, ta⟩ := bor_lst rel bx
    obtain ⟨q0, q1, q2, q3⟩ := q
    refine op_rep pins s σ H _ _ v u Q I rx ry ⟨a, _, xs, rfl, bor_int by', ha, by omega, by omega, by rw [ta.len]; exact million q1, fun p np => ?_⟩
    obtain ⟨rel3, s3⟩ := rel.laid (o := .lst _) np
    exact k _ _ _ _ q3 s3 rel3 (Dn.lst upd_same ((ta.rep _).mono s3))
/-- xs + ys that is one's own -/
def pAddL : P2L := fun x y R => match x, y with
  | .list xs, .list ys => xs.length + ys.length ≤ 1000000 ∧ R (xs ++ ys)
  | _, _ => False
theorem d_addL : OpDL X (binaryOp .Add) pAddL := by
  intro pins s σ H x y v u Q I rx ry ⟨B, G, δ, σ', dx, dy, R, rel, bx, by', q, k⟩
  cases dx <;> cases dy <;> first | exact False.elim q | skip
  obtain ⟨a, xs, rfl, ha, ta⟩ := bor_lst rel bx
  obtain ⟨b, ys, rfl, hb, tb⟩ := bor_lst rel by'
  exact op_cat pins s σ H _ _ v u Q I rx ry ⟨a, b, xs, ys, rfl, rfl, ha, hb, by rw [ta.len, tb.len]; exact million q.1, fun p np => k p _ _ G _ q.2 (Same.refl _) (rel.growB np) (rel.freeB np) (ta.app tb)⟩
def pMulL : P2L := fun x y R => match x, y with
  | .list xs, .int k => 0 ≤ k ∧ xs.length * k.toNat ≤ 1000000 ∧ k < 1000000 ∧ R (List.replicate k.toNat xs).flatten
  | _, _ => False
theorem d_mulL : OpDL X (binaryOp .Mult) pMulL := by
  intro pins s σ H x y v u Q I rx ry ⟨B, G, δ, σ', dx, dy, R, rel, bx, by', q, k⟩
  cases dx <;> cases dy <;> first | exact False.elim q | skip
  obtain ⟨a, xs, rfl, ha, ta⟩ := bor_lst rel bx
  obtain ⟨q0, q1, q2, q3⟩ := q
  exact op_rep pins s σ H _ _ v u Q I rx ry ⟨a, _, xs, rfl, bor_int by', ha, by omega, by omega, by rw [ta.len]; exact million q1, fun p np => k p _ _ G _ q3 (Same.refl _) (rel.growB np) (rel.freeB np) (ta.rep _)⟩
/-! ### ==, !=, in, not in, is None -/
/-- both of one plain kind: compared at once -/
def sc2 : PyData → PyData → Bool
  | .int _, .int _ => true
  | .str _, .str _ => true
  | .bool _, .bool _ => true
  | .none, .none => true
  | _, _ => false
def pEq : P2 := fun x y R => (sc2 x y = true ∨ SeqAt.shaped x = true ∧ SeqAt.shaped y = true) ∧ R (.bool (PyData.eqv x y))
def pNe : P2 := fun x y R => (sc2 x y = true ∨ SeqAt.shaped x = true ∧ SeqAt.shaped y = true) ∧ R (.bool (!PyData.eqv x y))
theorem sc2_eq {K : PySem.W.Frag} {G H : Hp} {x y : V} {dx dy : PyData} (h : sc2 dx dy = true) (bx : Bor K G H x dx) (by' : Bor K G H y dy) : scal x y = true ∧ decide (x = y) = PyData.eqv dx dy := by
  cases dx <;> cases dy <;> first | exact absurd h Bool.false_ne_true | skip
  · obtain rfl := bor_none bx
    obtain rfl := bor_none by'
    exact ⟨rfl, by simp [PyData.eqv]⟩
  · obtain rfl := bor_bool bx
    obtain rfl := bor_bool by'
    refine ⟨rfl, ?_⟩
    rw [dec_bl]; simp [PyData.eqv]
  · obtain rfl := bor_int bx
    obtain rfl := bor_int by'
    refine ⟨rfl, ?_⟩
    rw [dec_int]; simp [PyData.eqv]
  · obtain rfl := bor_str bx
    obtain rfl := bor_str by'
    refine ⟨rfl, ?_⟩
    rw [dec_str]; simp [PyData.eqv]
theorem d_eq (hu : X.A.units + 64 < cLine) : OpD X (compareOp .Eq) pEq := by
  intro pins s σ H x y v u Q I rx ry ⟨B, G, δ, σ', dx, dy, R, rel, bx, by', ⟨c, q⟩, k⟩
  rcases c with c | ⟨q1, q2⟩
  · obtain ⟨h1, h2⟩ := sc2_eq c bx by'
    refine op_eq pins s σ H x y v u Q I rx ry ⟨h1, ?_⟩
    rw [h2]
    exact k _ H G _ q (Same.refl _) rel (Dn.bl _)
  · exact op_eqD hu pins s σ H x y v u Q I rx ry ⟨dx, dy, Dn.dp _ (noDict_of_shaped q1) (bx.dn rel), Dn.dp _ (noDict_of_shaped q2) (by'.dn rel), q1, q2, k _ H G _ q (Same.refl _) rel (Dn.bl _)⟩
theorem d_ne (hu : X.A.units + 64 < cLine) : OpD X (compareOp .NotEq) pNe := by
  intro pins s σ H x y v u Q I rx ry ⟨B, G, δ, σ', dx, dy, R, rel, bx, by', ⟨c, q⟩, k⟩
  rcases c with c | ⟨q1, q2⟩
  · obtain ⟨h1, h2⟩ := sc2_eq c bx by'
    refine op_ne pins s σ H x y v u Q I rx ry ⟨h1, ?_⟩
    rw [h2]
    exact k _ H G _ q (Same.refl _) rel (Dn.bl _)
  · exact op_neD hu pins s σ H x y v u Q I rx ry ⟨dx, dy, Dn.dp _ (noDict_of_shaped q1) (bx.dn rel), Dn.dp _ (noDict_of_shaped q2) (by'.dn rel), q1, q2, k _ H G _ q (Same.refl _) rel (Dn.bl _)⟩
def isNone : PyData → Bool
  | .none => true
  | _ => false
def pIs : P2 := fun x y R => match x, y with
  | x, .none => R (.bool (isNone x))
  | .bool a, .bool b => R (.bool (decide (a = b)))
  | _, _ => False
def pIsNot : P2 := fun x y R => match x, y with
  | x, .none => R (.bool (!isNone x))
  | .bool a, .bool b => R (.bool (!decide (a = b)))
  | _, _ => False
theorem dn_non {K : PySem.W.Frag} {G : Hp} {v : V} {d : PyData} (h : Dn K G v d) : decide (v = V.non) = isNone d := by
  cases h <;> rfl
theorem d_is : OpD X (compareOp .Is) pIs := by
  intro pins s σ H x y v u Q I rx ry ⟨B, G, δ, σ', dx, dy, R, rel, bx, by', q, k⟩
  cases dy with
  | none =>
    refine op_isN pins s σ H x y v u Q I rx ry ⟨bor_none by', ?_⟩
    rw [dn_non (bx.dn rel)]
    have q' : R (.bool (isNone dx)) := by cases dx <;> exact q
    exact k _ H G _ q' (Same.refl _) rel (Dn.bl _)
  | bool b =>
    cases dx <;> first | exact False.elim q | skip
    exact op_isBl pins s σ H x y v u Q I rx ry ⟨_, _, bor_bool bx, bor_bool by', k _ H G _ q (Same.refl _) rel (Dn.bl _)⟩
  | _ => cases dx <;> exact False.elim q
theorem d_isnot : OpD X (compareOp .IsNot) pIsNot := by
  intro pins s σ H x y v u Q I rx ry ⟨B, G, δ, σ', dx, dy, R, rel, bx, by', q, k⟩
  cases dy with
  | none =>
    refine op_notN pins s σ H x y v u Q I rx ry ⟨bor_none by', ?_⟩
    rw [dn_non (bx.dn rel)]
    have q' : R (.bool (!isNone dx)) := by cases dx <;> exact q
    exact k _ H G _ q' (Same.refl _) rel (Dn.bl _)
  | bool b =>
    cases dx <;> first | exact False.elim q | skip
    exact op_notBl pins s σ H x y v u Q I rx ry ⟨_, _, bor_bool bx, bor_bool by', k _ H G _ q (Same.refl _) rel (Dn.bl _)⟩
  | _ => cases dx <;> exact False.elim q
def pIn : P2 := fun x y R => match y with
  | .list ds => SeqAt.shaped x = true ∧ SeqAt.shaped (.list ds) = true ∧ R (.bool (ds.any fun z => PyData.eqv z x))
  | .tuple ds => SeqAt.shaped x = true ∧ SeqAt.shaped (.tuple ds) = true ∧ R (.bool (ds.any fun z => PyData.eqv z x))
  | .str z => ∃ c : Nat, x = .str ⟨#[c]⟩ ∧ R (.bool (decide (c ∈ z.cps.toList)))
  | _ => False
def pNotIn : P2 := fun x y R => match y with
  | .list ds => SeqAt.shaped x = true ∧ SeqAt.shaped (.list ds) = true ∧ R (.bool (!ds.any fun z => PyData.eqv z x))
  | .tuple ds => SeqAt.shaped x = true ∧ SeqAt.shaped (.tuple ds) = true ∧ R (.bool (!ds.any fun z => PyData.eqv z x))
  | .str z => ∃ c : Nat, x = .str ⟨#[c]⟩ ∧ R (.bool (!decide (c ∈ z.cps.toList)))
  | _ => False
theorem d_in (hu : X.A.units + 65 < cLine) : OpD X (compareOp .In) pIn := by
  intro pins s σ H x y v u Q I rx ry ⟨B, G, δ, σ', dx, dy, R, rel, bx, by', q, k⟩
  cases dy with
  | list ds =>
    obtain ⟨q1, q2, q⟩ := q
    exact op_inD hu pins s σ H x y v u Q I rx ry ⟨dx, ds, Dn.dp _ (noDict_of_shaped q1) (bx.dn rel), Dn.dp _ (noDict_of_shaped q2) (by'.dn rel), q1, q2, k _ H G _ q (Same.refl _) rel (Dn.bl _)⟩
  | tuple ds =>
    obtain ⟨q1, q2, q⟩ := q
    obtain ⟨as, r1⟩ := Dp.reads I dx x v (Dn.dp _ (noDict_of_shaped q1) (bx.dn rel)) rx
    obtain ⟨bs, r2⟩ := Dp.reads I (.tuple ds) y u (Dn.dp _ (noDict_of_shaped q2) (by'.dn rel)) ry
    exact SeqAt.in_tuple_reads r2 r1 (by simpa [PyData.canLay0] using SeqAt.canLay_of_shaped q2) (SeqAt.canLay_of_shaped q1) (room_in_shaped q1 hu) ⟨.bl _, H, I, rfl, k _ H G _ q (Same.refl _) rel (Dn.bl _)⟩
  | str z =>
    obtain ⟨c, rfl, q⟩ := q
    exact op_in_sign pins s σ H x y v u Q I rx ry ⟨c, z, bor_str bx, bor_str by', k _ H G _ q (Same.refl _) rel (Dn.bl _)⟩
  | _ => exact False.elim q
theorem d_notIn (hu : X.A.units + 65 < cLine) : OpD X (compareOp .NotIn) pNotIn := by
  intro pins s σ H x y v u Q I rx ry ⟨B, G, δ, σ', dx, dy, R, rel, bx, by', q, k⟩
  cases dy with
  | list ds =>
    obtain ⟨q1, q2, q⟩ := q
    exact op_notInD hu pins s σ H x y v u Q I rx ry ⟨dx, ds, Dn.dp _ (noDict_of_shaped q1) (bx.dn rel), Dn.dp _ (noDict_of_shaped q2) (by'.dn rel), q1, q2, k _ H G _ q (Same.refl _) rel (Dn.bl _)⟩
  | tuple ds =>
    obtain ⟨q1, q2, q⟩ := q
    obtain ⟨as, r1⟩ := Dp.reads I dx x v (Dn.dp _ (noDict_of_shaped q1) (bx.dn rel)) rx
    obtain ⟨bs, r2⟩ := Dp.reads I (.tuple ds) y u (Dn.dp _ (noDict_of_shaped q2) (by'.dn rel)) ry
    exact SeqAt.notIn_tuple_reads r2 r1 (by simpa [PyData.canLay0] using SeqAt.canLay_of_shaped q2) (SeqAt.canLay_of_shaped q1) (room_in_shaped q1 hu) ⟨.bl _, H, I, rfl, k _ H G _ q (Same.refl _) rel (Dn.bl _)⟩
  | str z =>
    obtain ⟨c, rfl, q⟩ := q
    exact op_notIn_sign pins s σ H x y v u Q I rx ry ⟨c, z, bor_str bx, bor_str by', k _ H G _ q (Same.refl _) rel (Dn.bl _)⟩
  | _ => exact False.elim q
/-! ### items, slices -/
def pIx : P2 := fun x y R => match x, y with
  | .list ds, .int i => ∃ z, atI ds i = some z ∧ R z
  | .tuple ds, .int i => ∃ z, atI ds i = some z ∧ R z
  | .str z, .int i => z.length ≤ 1000000 ∧ ∃ c, atI z.cps.toList i = some c ∧ R (.str ⟨#[c]⟩)
  | _, _ => False
theorem DnL.atI {K : PySem.W.Frag} {G : Hp} {vs : List V} {ds : List PyData} {i : Int} {z : PyData} (t : DnL K G vs ds) (h : L2.atI ds i = some z) : ∃ v, L2.atI vs i = some v ∧ Dn K G v z := by
  unfold L2.atI at h ⊢
  rw [t.len]
  cases e : ixN ds.length i with
  | none => rw [e] at h; cases h
  | some j => rw [e] at h; exact t.get h
theorem d_ix : IxD X pIx := by
  have hor := @ix_seq X
  intro ev es pins s σ H x y v u Q I rx ry ⟨B, G, δ, σ', dx, dy, R, rel, bx, by', q, k⟩ hsub
  cases dx <;> cases dy <;> first | exact False.elim q | skip
  · obtain ⟨q1, c, e, q⟩ := q
    exact hor ev es pins s σ H x y v u Q I rx ry (.inr (.inr ⟨_, _, c, bor_str bx, bor_int by', million q1, e, k _ H G _ q (Same.refl _) rel (Dn.str _)⟩)) hsub
  · obtain ⟨a, xs, rfl, ha, ta⟩ := bor_lst rel bx
    obtain ⟨z, e, q⟩ := q
    obtain ⟨w, e2, dw⟩ := ta.atI e
    exact hor ev es pins s σ H _ y v u Q I rx ry (.inl ⟨a, xs, _, w, rfl, bor_int by', SqL.of ha, e2, k _ H G _ q (Same.refl _) rel dw⟩) hsub
  · obtain ⟨a, xs, rfl, ha, ta⟩ := bor_tup bx
    obtain ⟨z, e, q⟩ := q
    obtain ⟨w, e2, dw⟩ := ta.atI e
    exact hor ev es pins s σ H _ y v u Q I rx ry (.inr (.inl ⟨a, xs, _, w, rfl, bor_int by', sqT_mono rel.sg ha, e2, k _ H G _ q (Same.refl _) rel dw⟩)) hsub
def cutD {α : Type} (xs : List α) (lo hi : Option Int) : List α := (xs.drop (HT.sIx xs.length 0 lo)).take (HT.sIx xs.length xs.length hi - HT.sIx xs.length 0 lo)
def pSl : P3 := fun x lo hi R => match x with
  | .list ds => R (.list (cutD ds lo hi))
  | .tuple ds => R (.tuple (cutD ds lo hi))
  | .str z => z.length ≤ 1000000 ∧ R (.str (cutS z lo hi))
  | _ => False
theorem DnL.cut {K : PySem.W.Frag} {G : Hp} {vs : List V} {ds : List PyData} {lo hi : Option Int} (t : DnL K G vs ds) : DnL K G (cutV vs lo hi) (cutD ds lo hi) := by
  unfold cutV cutD
  rw [t.len]
  exact (t.drop _).take _
theorem cutD_whole {α : Type} {xs : List α} {lo hi : Option Int} (h1 : HT.sIx xs.length 0 lo = 0) (h2 : HT.sIx xs.length xs.length hi = xs.length) : cutD xs lo hi = xs := by
  unfold cutD
  rw [h1, h2]; simp
theorem d_sl : SlR X (rOfS X.K pSl) := by
  intro pins s σ H x v vl vu lo hi sl Q I rx hs pl pu ⟨B, G, δ, σ', dx, R, rel, bx, q, k⟩
  cases dx with
  | list ds =>
    obtain ⟨a, xs, rfl, ha, ta⟩ := bor_lst rel bx
    refine sl_list pins s σ H _ v vl vu lo hi sl Q I rx hs pl pu ⟨a, xs, rfl, SqL.of ha, fun p np => ?_⟩
    obtain ⟨rel3, s3⟩ := rel.laid (o := .lst (cutV xs lo hi)) np
    exact k _ _ _ _ q s3 rel3 (Dn.lst upd_same (ta.cut.mono s3))
  | tuple ds =>
    obtain ⟨a, xs, rfl, ha, ta⟩ := bor_tupS bx
    refine sl_tupA pins s σ H _ v vl vu lo hi sl Q I rx hs pl pu ⟨a, xs, rfl, sqT_mono rel.sg (SqT.of ha), fun e => ?_, fun _ p np => ?_⟩
    · have q' : R (.tuple (cutD ds lo hi)) := q
      rw [cutD_whole (by rw [← ta.len]; exact e.1) (by rw [← ta.len]; exact e.2)] at q'
      exact k _ H G _ q' (Same.refl _) rel (Dn.tup ha ta)
    · obtain ⟨rel3, s3⟩ := rel.laid (o := .tup (cutV xs lo hi)) np
      exact k _ _ _ _ q s3 rel3 (Dn.tup upd_same (ta.cut.mono s3))
  | str z => exact sl_str pins s σ H x v vl vu lo hi sl Q I rx hs pl pu ⟨z, bor_str bx, million q.1, k _ H G _ q.2 (Same.refl _) rel (Dn.str _)⟩
  | _ => exact False.elim q
end
end DL
set_option Elab.async false
set_option linter.all false
set_option maxRecDepth 100000
set_option maxHeartbeats 4000000
namespace DL
open PySem PySem.Spec PyProof.Rows L2
variable [Tb]

section
variable {X : Cx}
theorem BorL.one {K : PySem.W.Frag} {G H : Hp} {vs : List V} {d : PyData} (h : BorL K G H vs [d]) : ∃ v, vs = [v] ∧ Bor K G H v d := by
  cases h with | cons a b => cases b; exact ⟨_, rfl, a⟩
theorem BorL.two {K : PySem.W.Frag} {G H : Hp} {vs : List V} {d e : PyData} (h : BorL K G H vs [d, e]) : ∃ v u, vs = [v, u] ∧ Bor K G H v d ∧ Bor K G H u e := by
  cases h with | cons a b => obtain ⟨u, rfl, c⟩ := b.one; exact ⟨_, _, rfl, a, c⟩
/-- a built-in of one argument -/
abbrev one (p : PyData → (PyData → Prop) → Prop) : PN := fun xs R => match xs with
  | [x] => p x R
  | _ => False
abbrev oneL (p : PyData → (List PyData → Prop) → Prop) : List PyData → (List PyData → Prop) → Prop := fun xs R => match xs with
  | [x] => p x R
  | _ => False
abbrev two (p : PyData → PyData → (PyData → Prop) → Prop) : PN := fun xs R => match xs with
  | [x, y] => p x y R
  | _ => False
def pLen : PN := one fun x R => match x with
  | .list ds => R (.int ds.length)
  | .tuple ds => R (.int ds.length)
  | .str z => z.length ≤ 1000000 ∧ R (.int z.length)
  | _ => False
theorem c_len : CallD X (.builtin "len") pLen := by
  intro pins s σ H vs us Q I r ⟨B, G, δ, σ', ds, R, rel, b, q, k⟩
  match ds, q with
  | [d], q =>
    obtain ⟨v, rfl, bd⟩ := b.one
    cases d with
    | list xs =>
      obtain ⟨a, ws, rfl, ha, ta⟩ := bor_lst rel bd
      exact call_len pins s σ H _ us Q I r ⟨_, _, rfl, .inl ⟨ws, SqL.of ha, ta.len.symm⟩, k _ H G _ q (Same.refl _) rel (Dn.int _)⟩
    | tuple xs =>
      obtain ⟨a, ws, rfl, ha, ta⟩ := bor_tup bd
      exact call_len pins s σ H _ us Q I r ⟨_, _, rfl, .inr ⟨ws, sqT_mono rel.sg ha, ta.len.symm⟩, k _ H G _ q (Same.refl _) rel (Dn.int _)⟩
    | str z =>
      obtain rfl := bor_str bd
      exact call_len pins s σ H _ us Q I r ⟨_, _, rfl, ⟨million q.1, rfl⟩, k _ H G _ q.2 (Same.refl _) rel (Dn.int _)⟩
    | _ => exact False.elim q
def pTupOf : PN := one fun x R => match x with
  | .list ds => R (.tuple ds)
  | .tuple ds => R (.tuple ds)
  | _ => False
theorem c_tup : CallD X (.type "tuple") pTupOf := by
  intro pins s σ H vs us Q I r ⟨B, G, δ, σ', ds, R, rel, b, q, k⟩
  match ds, q with
  | [d], q =>
    obtain ⟨v, rfl, bd⟩ := b.one
    cases d with
    | list xs =>
      obtain ⟨a, ws, rfl, ha, ta⟩ := bor_lst rel bd
      refine call_tuple_of pins s σ H _ us Q I r ⟨a, ws, rfl, .inl ⟨SqL.of ha, fun p np => ?_⟩⟩
      obtain ⟨rel3, s3⟩ := rel.laid (o := .tup ws) np
      exact k _ _ _ _ q s3 rel3 (Dn.tup upd_same (ta.mono s3))
    | tuple xs =>
      obtain ⟨a, ws, rfl, ha, ta⟩ := bor_tupS bd
      exact call_tuple_of pins s σ H _ us Q I r ⟨a, ws, rfl, .inr ⟨sqT_mono rel.sg (SqT.of ha), k _ H G _ q (Same.refl _) rel (Dn.tup ha ta)⟩⟩
    | _ => exact False.elim q
def pLstOf : List PyData → (List PyData → Prop) → Prop := oneL fun x R => match x with
  | .list ds => R ds
  | .tuple ds => R ds
  | _ => False
theorem c_lst : CallDL X (.type "list") pLstOf := by
  intro pins s σ H vs us Q I r ⟨B, G, δ, σ', ds, R, rel, b, q, k⟩
  match ds, q with
  | [d], q =>
    obtain ⟨v, rfl, bd⟩ := b.one
    cases d with
    | list xs =>
      obtain ⟨a, ws, rfl, ha, ta⟩ := bor_lst rel bd
      exact call_list_of pins s σ H _ us Q I r ⟨a, ws, rfl, .inl (SqL.of ha), fun p np => k p ws _ G _ q (Same.refl _) (rel.growB np) (rel.freeB np) ta⟩
    | tuple xs =>
      obtain ⟨a, ws, rfl, ha, ta⟩ := bor_tup bd
      exact call_list_of pins s σ H _ us Q I r ⟨a, ws, rfl, .inr (sqT_mono rel.sg ha), fun p np => k p ws _ G _ q (Same.refl _) (rel.growB np) (rel.freeB np) ta⟩
    | _ => exact False.elim q
def pInt : PN := one fun x R => match x with
  | .int i => R (.int i)
  | .bool b => R (.int (if b then 1 else 0))
  | .str z => ∃ n, PySem.intText? z = some n ∧ z.length ≤ 640 ∧ R (.int n)
  | _ => False
theorem c_int : CallD X (.type "int") pInt := by
  intro pins s σ H vs us Q I r ⟨B, G, δ, σ', ds, R, rel, b, q, k⟩
  match ds, q with
  | [d], q =>
    obtain ⟨v, rfl, bd⟩ := b.one
    cases d with
    | int i => obtain rfl := bor_int bd; exact call_int1 pins s σ H _ us Q I r (.inl ⟨i, rfl, k _ H G _ q (Same.refl _) rel (Dn.int _)⟩)
    | bool i => obtain rfl := bor_bool bd; exact call_int1 pins s σ H _ us Q I r (.inr ⟨i, rfl, k _ H G _ q (Same.refl _) rel (Dn.int _)⟩)
    | str z =>
      obtain rfl := bor_str bd
      obtain ⟨n, q1, q2, q3⟩ := q
      exact call_int_str pins s σ H _ us Q I r ⟨z, n, rfl, q1, q2, k _ H G _ q3 (Same.refl _) rel (Dn.int _)⟩
    | _ => exact False.elim q
def pBool : PN := one fun x R => match x with
  | .int i => R (.bool (i != 0))
  | .bool b => R (.bool b)
  | _ => False
theorem c_bool : CallD X (.type "bool") pBool := by
  intro pins s σ H vs us Q I r ⟨B, G, δ, σ', ds, R, rel, b, q, k⟩
  match ds, q with
  | [d], q =>
    obtain ⟨v, rfl, bd⟩ := b.one
    cases d with
    | int i => obtain rfl := bor_int bd; exact call_bool1 pins s σ H _ us Q I r (.inl ⟨i, rfl, k _ H G _ q (Same.refl _) rel (Dn.bl _)⟩)
    | bool i => obtain rfl := bor_bool bd; exact call_bool1 pins s σ H _ us Q I r (.inr ⟨i, rfl, k _ H G _ q (Same.refl _) rel (Dn.bl _)⟩)
    | _ => exact False.elim q
def pStr : PN := one fun x R => match x with
  | .int i => i.natAbs.log2 < 1920 ∧ R (.str (toString i))
  | .str z => R (.str z)
  | _ => False
theorem c_str : CallD X (.type "str") pStr := by
  intro pins s σ H vs us Q I r ⟨B, G, δ, σ', ds, R, rel, b, q, k⟩
  match ds, q with
  | [d], q =>
    obtain ⟨v, rfl, bd⟩ := b.one
    cases d with
    | int i => obtain rfl := bor_int bd; exact call_str_int pins s σ H _ us Q I r ⟨i, rfl, q.1, k _ H G _ q.2 (Same.refl _) rel (Dn.str _)⟩
    | str z => obtain rfl := bor_str bd; exact SkE.call_str_str pins s σ H _ us Q I r ⟨z, rfl, k _ H G _ q (Same.refl _) rel (Dn.str _)⟩
    | _ => exact False.elim q
def pAbs : PN := one fun x R => match x with
  | .int i => R (.int (if i < 0 then -i else i))
  | _ => False
theorem c_abs : CallD X (.builtin "abs") pAbs := by
  intro pins s σ H vs us Q I r ⟨B, G, δ, σ', ds, R, rel, b, q, k⟩
  match ds, q with
  | [d], q =>
    obtain ⟨v, rfl, bd⟩ := b.one
    cases d with
    | int i => obtain rfl := bor_int bd; exact call_abs pins s σ H _ us Q I r ⟨i, rfl, k _ H G _ q (Same.refl _) rel (Dn.int _)⟩
    | _ => exact False.elim q
def pMax2 : PN := two fun x y R => match x, y with
  | .int i, .int j => R (.int (if j > i then j else i))
  | _, _ => False
def pMin2 : PN := two fun x y R => match x, y with
  | .int i, .int j => R (.int (if j < i then j else i))
  | _, _ => False
theorem c_max2 (hc : X.calm = true) : CallD X (.builtin "max") pMax2 := by
  intro pins s σ H vs us Q I r ⟨B, G, δ, σ', ds, R, rel, b, q, k⟩
  match ds, q with
  | [d, e], q =>
    obtain ⟨v, u, rfl, bd, be⟩ := b.two
    cases d <;> cases e <;> first | exact False.elim q | skip
    obtain rfl := bor_int bd
    obtain rfl := bor_int be
    exact call_max2 hc pins s σ H _ us Q I r ⟨_, _, rfl, k _ H G _ q (Same.refl _) rel (Dn.int _)⟩
theorem c_min2 (hc : X.calm = true) : CallD X (.builtin "min") pMin2 := by
  intro pins s σ H vs us Q I r ⟨B, G, δ, σ', ds, R, rel, b, q, k⟩
  match ds, q with
  | [d, e], q =>
    obtain ⟨v, u, rfl, bd, be⟩ := b.two
    cases d <;> cases e <;> first | exact False.elim q | skip
    obtain rfl := bor_int bd
    obtain rfl := bor_int be
    exact call_min2 hc pins s σ H _ us Q I r ⟨_, _, rfl, k _ H G _ q (Same.refl _) rel (Dn.int _)⟩
/-- sum, max, min, sorted of ints -/
def pSum : PN := one fun x R => match x with
  | .list ds => ∃ ns : List Int, ds = ns.map PyData.int ∧ R (.int ns.sum)
  | _ => False
def pMax : PN := one fun x R => match x with
  | .list ds => ∃ ns : List Int, ds = ns.map PyData.int ∧ 0 < ns.length ∧ ∀ m, m ∈ ns → (∀ y ∈ ns, y ≤ m) → R (.int m)
  | _ => False
def pMin : PN := one fun x R => match x with
  | .list ds => ∃ ns : List Int, ds = ns.map PyData.int ∧ 0 < ns.length ∧ ∀ m, m ∈ ns → (∀ y ∈ ns, m ≤ y) → R (.int m)
  | _ => False
theorem c_sum (hc : X.calm = true) : CallD X (.builtin "sum") pSum := by
  intro pins s σ H vs us Q I r ⟨B, G, δ, σ', ds, R, rel, b, q, k⟩
  match ds, q with
  | [d], q =>
    obtain ⟨v, rfl, bd⟩ := b.one
    cases d with
    | list xs =>
      obtain ⟨a, ws, rfl, ha, ta⟩ := bor_lst rel bd
      obtain ⟨ns, rfl, q⟩ := q
      obtain rfl := ta.toInts
      exact cr_sum hc pins s σ H _ us Q I r ⟨a, ns, rfl, SqL.of ha, k _ H G _ q (Same.refl _) rel (Dn.int _)⟩
    | _ => exact False.elim q
theorem c_max (hc : X.calm = true) : CallD X (.builtin "max") pMax := by
  intro pins s σ H vs us Q I r ⟨B, G, δ, σ', ds, R, rel, b, q, k⟩
  match ds, q with
  | [d], q =>
    obtain ⟨v, rfl, bd⟩ := b.one
    cases d with
    | list xs =>
      obtain ⟨a, ws, rfl, ha, ta⟩ := bor_lst rel bd
      obtain ⟨ns, rfl, q1, q⟩ := q
      obtain rfl := ta.toInts
      exact cr_max hc pins s σ H _ us Q I r ⟨a, ns, rfl, SqL.of ha, q1, fun m h1 h2 => k _ H G _ (q m h1 h2) (Same.refl _) rel (Dn.int _)⟩
    | _ => exact False.elim q
theorem c_min (hc : X.calm = true) : CallD X (.builtin "min") pMin := by
  intro pins s σ H vs us Q I r ⟨B, G, δ, σ', ds, R, rel, b, q, k⟩
  match ds, q with
  | [d], q =>
    obtain ⟨v, rfl, bd⟩ := b.one
    cases d with
    | list xs =>
      obtain ⟨a, ws, rfl, ha, ta⟩ := bor_lst rel bd
      obtain ⟨ns, rfl, q1, q⟩ := q
      obtain rfl := ta.toInts
      exact cr_min hc pins s σ H _ us Q I r ⟨a, ns, rfl, SqL.of ha, q1, fun m h1 h2 => k _ H G _ (q m h1 h2) (Same.refl _) rel (Dn.int _)⟩
    | _ => exact False.elim q
/-- all, any of a list of truth values -/
def pAll : PN := one fun x R => match x with
  | .list ds => ∃ bs : List Bool, ds = bs.map PyData.bool ∧ R (.bool (bs.all id))
  | _ => False
def pAny : PN := one fun x R => match x with
  | .list ds => ∃ bs : List Bool, ds = bs.map PyData.bool ∧ R (.bool (bs.any id))
  | _ => False
theorem c_all (hc : X.calm = true) : CallD X (.builtin "all") pAll := by
  intro pins s σ H vs us Q I r ⟨B, G, δ, σ', ds, R, rel, b, q, k⟩
  match ds, q with
  | [d], q =>
    obtain ⟨v, rfl, bd⟩ := b.one
    cases d with
    | list xs =>
      obtain ⟨a, ws, rfl, ha, ta⟩ := bor_lst rel bd
      obtain ⟨ns, rfl, q⟩ := q
      obtain rfl := ta.toBools
      exact cr_all hc pins s σ H _ us Q I r ⟨a, ns, rfl, SqL.of ha, k _ H G _ q (Same.refl _) rel (Dn.bl _)⟩
    | _ => exact False.elim q
theorem c_any (hc : X.calm = true) : CallD X (.builtin "any") pAny := by
  intro pins s σ H vs us Q I r ⟨B, G, δ, σ', ds, R, rel, b, q, k⟩
  match ds, q with
  | [d], q =>
    obtain ⟨v, rfl, bd⟩ := b.one
    cases d with
    | list xs =>
      obtain ⟨a, ws, rfl, ha, ta⟩ := bor_lst rel bd
      obtain ⟨ns, rfl, q⟩ := q
      obtain rfl := ta.toBools
      exact cr_any hc pins s σ H _ us Q I r ⟨a, ns, rfl, SqL.of ha, k _ H G _ q (Same.refl _) rel (Dn.bl _)⟩
    | _ => exact False.elim q
/-- repr of data without dicts -/
def pRepr : PN := one fun x R => x.showable = true ∧ x.hasDict = false ∧ x.depth ≤ 60 ∧ x.shown.length ≤ 16000000 ∧ R (.str x.shown)
theorem c_repr (hg : X.A.guards = some []) (hu : X.A.units + 64 < cLine) : CallD X (.builtin "repr") pRepr := by
  intro pins s σ H vs us Q I r ⟨B, G, δ, σ', ds, R, rel, b, q, k⟩
  match ds, q with
  | [d], ⟨q1, q2, q3, q4, q⟩ =>
    obtain ⟨v, rfl, bd⟩ := b.one
    obtain ⟨u, rfl, ru⟩ := vals1 r
    have dn := bd.dn rel
    have fin := k (.str d.shown) H G _ q (Same.refl _) rel (Dn.str _)
    have hsz : d.shown.length ≤ sizeLine := Nat.le_trans q4 (by decide)
    obtain ⟨as, rd⟩ := Dp.reads I d v u (Dn.dp d q2 dn) ru
    have go : ∀ {x : Str} {t : Tok} {s' : Shared}, x = d.shown → Inv X pins σ H s' → EP X pins σ Q (.str x t) s' := fun {x t s'} e I' => by
      subst e
      exact ⟨.str d.shown, H, I', ⟨t, rfl⟩, fin⟩
    have big : ∀ a, u = .ref a → wpAny (model X.prog X.w) X.A (call (.builtin "repr") [u]) (EP X pins σ Q) X.xe s := fun a e => by
      subst e
      exact repr_of_reads' (h₀ := s.heap) rd q1 (PyData.noDict_hsm q2) hg (by omega) (fun _ _ e => e) (fun h' u tk hk => go rfl (I.kept hk)) hsz
    cases dn with
    | non => cases ru; exact PySem.P.repr_of_none (go rfl (I.tok _))
    | bl b => cases ru; exact PySem.P.repr_of_bool (go (by cases b <;> simp [PyData.shown]) (I.tok _))
    | int i => obtain ⟨t, rfl⟩ := ru; exact PySem.P.repr_of_int (by simpa [PyData.showable] using q1) (go (by simp [PyData.shown]) (I.tok _))
    | str z => obtain ⟨t, rfl⟩ := ru; exact PySem.P.repr_of_str (go (by simp [PyData.shown]) (I.tok _)) (by simpa [PyData.shown] using hsz)
    | lst h t => cases ru; exact big _ rfl
    | tup h t => cases ru; exact big _ rfl
    | dic h n => simp [PyData.hasDict] at q2
/-! ### isinstance -/
def tyName : PyData → String
  | .none => "NoneType" | .bool _ => "bool" | .int _ => "int" | .str _ => "str" | .list _ => "list" | .tuple _ => "tuple" | .dict _ => "dict"
theorem dn_tyX {K : PySem.W.Frag} {H : Hp} {v : V} {d : PyData} (h : Dn K H v d) : TyX K H v (.type (tyName d)) := by
  cases h with
  | non => exact .base .non
  | bl b => exact .base (.bl b)
  | int i => exact .base (.int i)
  | str x => exact .base (.str x)
  | lst h t => exact .base (.lst h)
  | tup h t => exact .base (.tup h)
  | dic h n => exact .base (.dK h)
def isTy (T : String) (d : PyData) : Bool := tyName d == T || (T == "int" && tyName d == "bool")
def wIsi (T : String) (w : DE) : DE := fun δ R => w δ fun o δ1 => use o δ1 fun x => R (.d (.bool (isTy T x))) δ1
theorem kit_isTy {K : PySem.W.Frag} {T : String} (hT : T = "int" ∨ T = "bool" ∨ T = "str" ∨ T = "tuple" ∨ T = "list" ∨ T = "dict") (d : PyData) : PySem.W.kitOne K (.type (tyName d)) (.type T) = some (isTy T d) := by
  apply kit_ty
  have all : ∀ n ∈ ["NoneType", "bool", "int", "str", "list", "tuple", "dict"], ∀ T ∈ ["int", "bool", "str", "tuple", "list", "dict"], kitB n T = some (n == T || (T == "int" && n == "bool")) := by decide +kernel
  exact all (tyName d) (by cases d <;> simp [tyName]) T (by simpa using hT)
theorem je_isi {T : String} {e : Expr} {w : DE} {x t : Str} {px pt pos : Pos} (hT : T = "int" ∨ T = "bool" ∨ T = "str" ∨ T = "tuple" ∨ T = "list" ∨ T = "dict") (hg : Gl X x) (hm : X.mg x = none) (hv : bootBuiltins x = some (.builtin "isinstance")) (ht : Gl X t) (hmt : X.mg t = none) (hvt : bootBuiltins t = some (.type T)) (he : JE X e w)
    (hn : x ≠ "__name__" := by decide) (hdb : (x == ("__debug__" : Str)) = false := by decide) (hn2 : t ≠ "__name__" := by decide) (hdb2 : (t == ("__debug__" : Str)) = false := by decide)
    (hs1 : starEach [e, .Name t pt] X.env = (false, eval e X.env) :: starEach [.Name t pt] X.env := by rfl) (hs2 : starEach [.Name t pt] X.env = (false, eval (.Name t pt) X.env) :: starEach [] X.env := by rfl)
    (hpl : (backTo pos (starEach [.Name t pt] X.env)).any (·.1) = false := by rfl) :
    JE X (.Call (.Name x px) [e, .Name t pt] [] pos) (wIsi T w) :=
  pe_le (pe_callB call_isi hg hm hv (pa_cons he (pa_cons (pe_bltn (v := .ty T) ht hmt hvt rfl hn2 hdb2) pa_nil hs2) hs1) hn hdb hs1 hpl) fun pins s σ H Q I ⟨B, G, δ, R, rel, hw, k⟩ =>
    ⟨B, G, δ, _, rel, hw, fun v H1 G1 o δ1 r1 s1 rel1 ok1 => by
      obtain ⟨d, q, bd⟩ := use_ok rel1 ok1 r1
      exact ⟨v, .ty T, _, _, _, rfl, ClsV.ty T, dn_tyX (bd.dn rel1), kit_isTy hT d, k _ H1 G1 _ δ1 q s1 rel1 (Dn.bl _)⟩⟩
/-! ### xs[::-1] of a list -/
def wRevL (w : DE) : DE := fun δ R => w δ fun o δ1 => use o δ1 fun x => ∃ ds, x = .list ds ∧ R (.d (.list ds.reverse)) δ1
theorem je_revL {e : Expr} {w : DE} {p1 p2 p3 pos : Pos} {k1} (h : JE X e w) : JE X (.Subscript e (.Slice none none (some (.UnaryOp .USub (.Constant (.int 1) k1 p1) p2)) p3) pos) (wRevL w) :=
  pe_le (pe_revL h) fun pins s σ H Q I ⟨B, G, δ, R, rel, hw, k⟩ => ⟨B, G, δ, _, rel, hw, fun v H1 G1 o δ1 r1 s1 rel1 ok1 => by
    obtain ⟨d, ⟨ds, rfl, q⟩, bd⟩ := use_ok rel1 ok1 r1
    obtain ⟨a, ws, rfl, ha, ta⟩ := bor_lst rel1 bd
    refine ⟨a, ws, rfl, SqL.of ha, fun p np => ?_⟩
    obtain ⟨rel3, s3⟩ := rel1.laid (o := .lst ws.reverse) np
    exact k _ _ _ _ _ q (s1.trans s3) rel3 (Dn.lst upd_same (ta.rev.mono s3))⟩
/-! ### module constants -/
theorem je_glob {x : Str} {v : V} {u : Value} {d : PyData} {pos : Pos} (hg : Gl X x) (hm : X.mg x = some u) (r : RelV v u) (hd : ∀ K G, Dn K G v d) (hdb : (x == ("__debug__" : Str)) = false := by decide) : JE X (.Name x pos) (wC d) := je_c (pe_glob hg hm r hdb) hd
/-! ### sep.join(list of texts) -/
def pJoin : P2 := fun x y R => match x, y with
  | .str z, .list ds => ∃ ys : List Str, ds = ys.map PyData.str ∧ (ys.map (·.length)).sum + ys.length * z.length ≤ 16777216 ∧ R (.str (Txt.join z ys))
  | _, _ => False
def wJoin (w u : DE) : DE := fun δ R => w δ fun o1 δ1 => u δ1 fun o2 δ2 => use o1 δ2 fun x => use o2 δ2 fun y => pJoin x y fun z => R (.d z) δ2
end
end DL
set_option Elab.async false
set_option linter.all false
set_option maxRecDepth 100000
set_option maxHeartbeats 4000000
namespace DL
open PySem PySem.Spec PyProof.Rows L2
variable [Tb]

/-! ### values on their way into a slot -/
def bov (B H : Hp) (l : List Addr) : Hp := fun a => if a ∈ l then H a else B a
abbrev DM := DS → (Cell → DS → Prop) → Prop
abbrev DMs := DS → (List Cell → DS → Prop) → Prop
def fps (cs : List Cell) : List Addr := cs.flatMap Cell.fp
inductive CellsOk (K : PySem.W.Frag) (G H : Hp) : List Cell → List V → Prop
  | nil : CellsOk K G H [] []
  | cons {c : Cell} {v : V} {cs : List Cell} {vs : List V} (h : CellOk K G H c (some v)) (hd : ∀ a ∈ c.fp, a ∉ fps cs) (t : CellsOk K G H cs vs) : CellsOk K G H (c :: cs) (v :: vs)
def upMs (K : PySem.W.Frag) (w : DMs) : TA := fun σ H Q => ∃ B G δ R, Rel K B G δ σ H ∧ w δ R ∧ ∀ vs H' G' cs δ', R cs δ' → Same G G' → Rel K (bov B H' (fps cs)) G' δ' σ H' → (∀ a ∈ fps cs, B a = none) → CellsOk K G' H' cs vs → Q vs H'
def upM (K : PySem.W.Frag) (w : DM) : TE := fun σ H Q => ∃ B G δ R, Rel K B G δ σ H ∧ w δ R ∧ ∀ v H' G' c δ', R c δ' → Same G G' → Rel K (bov B H' c.fp) G' δ' σ H' → (∀ a ∈ c.fp, B a = none) → CellOk K G' H' c (some v) → Q v H'
abbrev JM (X : Cx) (e : Expr) (w : DM) : Prop := PE X e (upM X.K w)
abbrev JMs (X : Cx) (es : List Expr) (w : DMs) : Prop := PA X es (upMs X.K w)
theorem bov_nil {B H : Hp} : bov B H [] = B := by funext a; simp [bov]
section
variable {X : Cx} {e : Expr} {es : List Expr} {pos : Pos}
def mE (w : DE) : DM := fun δ R => w δ fun o δ1 => lk o δ1 fun x δ2 => R (.d x) δ2
def mL (w : DL) : DM := fun δ R => w δ fun xs δ1 => ∀ a, R (.ol a xs) δ1
theorem jm_e {w : DE} (h : JE X e w) : JM X e (mE w) := pe_le h fun pins s σ H Q I ⟨B, G, δ, R, rel, hw, k⟩ => ⟨B, G, δ, _, rel, hw, fun v H1 G1 o δ1 r1 s1 rel1 ok1 => by
  obtain ⟨G2, δ2, x, q, s2, rel2, dn⟩ := lk_ok rel1 ok1 r1
  exact k v H1 G2 (.d x) δ2 q (s1.trans s2) (by show Rel X.K (bov B H1 []) G2 δ2 σ H1; rw [bov_nil]; exact rel2) (fun a m => nomatch m) ⟨v, rfl, dn⟩⟩
theorem jm_l {w : DL} (h : JL X e w) : JM X e (mL w) := pe_le h fun pins s σ H Q I ⟨B, G, δ, R, rel, hw, k⟩ => ⟨B, G, δ, _, rel, hw, fun a vs H1 G1 xs δ1 r1 s1 rel1 hB t => by
  have ha : H1 a = some (.lst vs) := rel1.sb _ _ upd_same
  have e : bov B H1 [a] = upd B a (.lst vs) := by
    funext b
    unfold bov upd
    by_cases hb : b = a
    · subst hb; simp [ha]
    · simp [hb]
  exact k (.ref a) H1 G1 (.ol a xs) δ1 (r1 a) s1 (by show Rel X.K (bov B H1 [a]) G1 δ1 σ H1; rw [e]; exact rel1) (fun b m => by rw [List.mem_singleton.mp m]; exact hB) ⟨rfl, vs, ha, t⟩⟩
def msNil : DMs := fun δ R => R [] δ
def msCons (w : DM) (r : DMs) : DMs := fun δ R => w δ fun c δ1 => r δ1 fun cs δ2 => R (c :: cs) δ2
theorem jms_nil : JMs X [] msNil := pa_le pa_nil fun pins s σ H Q I ⟨B, G, δ, R, rel, hw, k⟩ => k [] H G [] δ hw (Same.refl _) (by show Rel X.K (bov B H []) G δ σ H; rw [bov_nil]; exact rel) (fun a m => nomatch m) .nil
theorem jms_cons {w : DM} {r : DMs} (ha : JM X e w) (hr : JMs X es r) (hs : starEach (e :: es) X.env = (false, eval e X.env) :: starEach es X.env := by rfl) : JMs X (e :: es) (msCons w r) :=
  pa_le (pa_cons ha hr hs) fun pins s σ H Q I ⟨B, G, δ, R, rel, hw, k⟩ =>
    ⟨B, G, δ, _, rel, hw, fun v H1 G1 c δ1 r1 s1 rel1 hB1 ok1 => ⟨bov B H1 c.fp, G1, δ1, _, rel1, r1, fun vs H2 G2 cs δ2 r2 s2 rel2 hB2 ok2 => by
      have off : ∀ a ∈ c.fp, a ∉ fps cs := fun a m m2 => by
        have z := hB2 a m2
        unfold bov at z
        rw [if_pos m] at z
        obtain ⟨o, eo⟩ := cell_tr (K := X.K) (G := G1) ok1 m
        rw [eo] at z; cases z
      have same : ∀ a ∈ c.fp, H2 a = H1 a := fun a m => by
        obtain ⟨o, eo⟩ := cell_tr (K := X.K) (G := G1) ok1 m
        have z : bov (bov B H1 c.fp) H2 (fps cs) a = some o := by
          unfold bov
          rw [if_neg (off a m), if_pos m]; exact eo
        rw [rel2.sb _ _ z, eo]
      have eb : bov (bov B H1 c.fp) H2 (fps cs) = bov B H2 (fps (c :: cs)) := by
        funext a
        unfold bov
        by_cases h1 : a ∈ fps cs
        · have h3 : a ∈ fps (c :: cs) := by unfold fps; rw [List.flatMap_cons]; exact List.mem_append_right _ h1
          rw [if_pos h1, if_pos h3]
        · by_cases h2 : a ∈ c.fp
          · have h3 : a ∈ fps (c :: cs) := by unfold fps; rw [List.flatMap_cons]; exact List.mem_append_left _ h2
            rw [if_neg h1, if_pos h2, if_pos h3, same a h2]
          · have h3 : a ∉ fps (c :: cs) := by
              unfold fps; rw [List.flatMap_cons]; intro m
              rcases List.mem_append.mp m with m | m
              · exact h2 m
              · exact h1 m
            rw [if_neg h1, if_neg h2, if_neg h3]
      refine k (v :: vs) H2 G2 (c :: cs) δ2 r2 (s1.trans s2) (eb ▸ rel2) (fun a m => ?_) (.cons (ok1.stay s2 same) off ok2)
      unfold fps at m
      rw [List.flatMap_cons] at m
      rcases List.mem_append.mp m with m | m
      · exact hB1 a m
      · have z := hB2 a m
        unfold bov at z
        split at z
        · rename_i hm
          exact absurd m (off a hm)
        · exact z⟩⟩
end

/-! ### storing -/
section
variable {K : PySem.W.Frag} {B G H : Hp} {δ : DS} {σ : L2.St}
theorem bov_sub {l l' : List Addr} : ∀ a, a ∈ l → (bov B H l) a = H a := fun a m => by unfold bov; rw [if_pos m]
theorem Rel.store {c : Cell} {v : V} {i : Nat} {l : List Addr} (R : Rel K (bov B H (c.fp ++ l)) G δ σ H) (hB : ∀ a ∈ c.fp, B a = none) (hl : ∀ a ∈ c.fp, a ∉ l) (ok : CellOk K G H c (some v)) : Rel K (bov B H l) G (δ.set i c) (σ.set i (some v)) H := by
  have tr : ∀ a ∈ c.fp, ∃ o, H a = some o := fun a m => cell_tr ok m
  have bg : ∀ a ∈ c.fp, G a = none := fun a m => by
    rcases R.dj a with z | z
    · exact z
    · obtain ⟨o, eo⟩ := tr a m
      unfold bov at z
      rw [if_pos (List.mem_append_left _ m), eo] at z; cases z
  have bn : ∀ a ∈ c.fp, bov B H l a = none := fun a m => by
    unfold bov; rw [if_neg (hl a m)]; exact hB a m
  have sub : Same (bov B H l) H := fun a o z => by
    unfold bov at z
    split at z
    · exact z
    · by_cases m : a ∈ c.fp
      · rw [hB a m] at z; cases z
      · refine R.sb a o ?_
        unfold bov
        split
        · rename_i hm
          rcases List.mem_append.mp hm with q | q
          · exact absurd q m
          · rename_i hn; exact absurd q hn
        · exact z
  have R' : Rel K (bov B H l) G δ σ H := by
    refine ⟨R.len, R.sg, sub, fun a => ?_, R.ok, R.ap, fun i c' a e m => ?_, R.tt⟩
    · rcases R.dj a with z | z
      · exact .inl z
      · by_cases m : a ∈ c.fp
        · exact .inr (bn a m)
        · refine .inr ?_
          unfold bov at z ⊢
          split
          · rename_i hm
            rw [if_pos (List.mem_append_right _ hm)] at z; exact z
          · rename_i hm
            rw [if_neg] at z
            · exact z
            · intro q
              rcases List.mem_append.mp q with q | q
              · exact m q
              · exact hm q
    · obtain ⟨f1, f2⟩ := R.fr i c' a e m
      refine ⟨f1, ?_⟩
      by_cases m2 : a ∈ c.fp
      · exact bn a m2
      · unfold bov at f2 ⊢
        split
        · rename_i hm
          rw [if_pos (List.mem_append_right _ hm)] at f2; exact f2
        · rename_i hm
          rw [if_neg] at f2
          · exact f2
          · intro q
            rcases List.mem_append.mp q with q | q
            · exact m2 q
            · exact hm q
  refine R'.set ok fun a m => ⟨⟨bg a m, bn a m⟩, fun j c' hj e m' => ?_⟩
  obtain ⟨_, f2⟩ := R.fr j c' a e m'
  obtain ⟨o, eo⟩ := tr a m
  unfold bov at f2
  rw [if_pos (List.mem_append_left _ m), eo] at f2; cases f2
end

/-! ### statements -/
structure DEnds where
  nx : DS → Prop
  rt : PyData → DS → Prop
  bk : DS → Prop := fun _ => False
  ct : DS → Prop := fun _ => False
abbrev DTS := DEnds → DS → Prop
structure EndsOk (K : PySem.W.Frag) (B G : Hp) (E : DEnds) (D : Ends) : Prop where
  nx : ∀ σ' H' G' δ', E.nx δ' → Same G G' → Rel K B G' δ' σ' H' → D.nx σ' H'
  rt : ∀ v σ' H' G' x δ', E.rt x δ' → Same G G' → Rel K B G' δ' σ' H' → Dn K G' v x → D.rt v H'
  bk : ∀ σ' H' G' δ', E.bk δ' → Same G G' → Rel K B G' δ' σ' H' → D.bk σ' H'
  ct : ∀ σ' H' G' δ', E.ct δ' → Same G G' → Rel K B G' δ' σ' H' → D.ct σ' H'
theorem EndsOk.mono {K : PySem.W.Frag} {B G G' : Hp} {E : DEnds} {D : Ends} (h : EndsOk K B G E D) (s : Same G G') : EndsOk K B G' E D :=
  ⟨fun σ' H' G2 δ' r s2 => h.nx σ' H' G2 δ' r (s.trans s2), fun v σ' H' G2 x δ' r s2 => h.rt v σ' H' G2 x δ' r (s.trans s2), fun σ' H' G2 δ' r s2 => h.bk σ' H' G2 δ' r (s.trans s2), fun σ' H' G2 δ' r s2 => h.ct σ' H' G2 δ' r (s.trans s2)⟩
def upS (K : PySem.W.Frag) (w : DTS) : TS := fun D σ H => ∃ B G δ E, Rel K B G δ σ H ∧ w E δ ∧ EndsOk K B G E D
abbrev JS (X : Cx) (st : Stmt) (w : DTS) : Prop := PS X st (upS X.K w)
abbrev JSs (X : Cx) (st : List Stmt) (w : DTS) : Prop := PSs X st (upS X.K w)
section
variable {X : Cx} {st : Stmt} {rest : List Stmt} {e : Expr} {pos : Pos}
theorem ps_le {t t' : TS} (h : PS X st t) (l : ∀ pins s σ H D, Inv X pins σ H s → t' D σ H → t D σ H) : PS X st t' := ⟨fun pins s σ H D I q => h.run pins s σ H D I (l pins s σ H D I q)⟩
theorem pss_le {t t' : TS} (h : PSs X rest t) (l : ∀ pins s σ H D, Inv X pins σ H s → t' D σ H → t D σ H) : PSs X rest t' := ⟨fun pins s σ H D I q => h.run pins s σ H D I (l pins s σ H D I q)⟩
def wNext : DTS := fun E δ => E.nx δ
def wSeq (t u : DTS) : DTS := fun E δ => t { E with nx := u E } δ
theorem jss_nil : JSs X [] wNext := pss_le pss_nil fun pins s σ H D I ⟨B, G, δ, E, rel, hw, k⟩ => k.nx σ H G δ hw (Same.refl _) rel
theorem jss_cons {t u : DTS} (h1 : JS X st t) (h2 : JSs X rest u) : JSs X (st :: rest) (wSeq t u) := pss_le (pss_cons h1 h2) fun pins s σ H D I ⟨B, G, δ, E, rel, hw, k⟩ =>
  ⟨B, G, δ, _, rel, hw, ⟨fun σ' H' G' δ' r s1 rel1 => ⟨B, G', δ', E, rel1, r, k.mono s1⟩, k.rt, k.bk, k.ct⟩⟩
theorem jss_one {t : DTS} (h : JS X st t) : JSs X [st] t := pss_one h
theorem js_pass : JS X (.Pass pos) wNext := ps_le ps_pass fun pins s σ H D I ⟨B, G, δ, E, rel, hw, k⟩ => k.nx σ H G δ hw (Same.refl _) rel
theorem js_doc {x j pos pos'} : JS X (.Expr (.Constant (.str x) j pos) pos') wNext := ps_le ps_doc fun pins s σ H D I ⟨B, G, δ, E, rel, hw, k⟩ => k.nx σ H G δ hw (Same.refl _) rel
def wBrk : DTS := fun E δ => E.bk δ
def wCnt : DTS := fun E δ => E.ct δ
theorem js_break : JS X (.Break pos) wBrk := ps_le ps_break fun pins s σ H D I ⟨B, G, δ, E, rel, hw, k⟩ => k.bk σ H G δ hw (Same.refl _) rel
theorem js_continue : JS X (.Continue pos) wCnt := ps_le ps_continue fun pins s σ H D I ⟨B, G, δ, E, rel, hw, k⟩ => k.ct σ H G δ hw (Same.refl _) rel
def wRet (w : DE) : DTS := fun E δ => w δ fun o δ1 => lk o δ1 fun x δ2 => E.rt x δ2
theorem js_ret {w : DE} (h : JE X e w) : JS X (.Return (some e) pos) (wRet w) := ps_le (ps_ret h) fun pins s σ H D I ⟨B, G, δ, E, rel, hw, k⟩ => ⟨B, G, δ, _, rel, hw, fun v H1 G1 o δ1 r1 s1 rel1 ok1 => by
  obtain ⟨G2, δ2, x, q, s2, rel2, dn⟩ := lk_ok rel1 ok1 r1
  exact k.rt v σ H1 G2 x δ2 q (s1.trans s2) rel2 dn⟩
def wRetN : DTS := fun E δ => E.rt .none δ
theorem js_retN : JS X (.Return none pos) wRetN := ps_le ps_retN fun pins s σ H D I ⟨B, G, δ, E, rel, hw, k⟩ => k.rt .non σ H G _ δ hw (Same.refl _) rel .non
def wIf (c : DT) (t u : DTS) : DTS := fun E δ => c δ fun b δ1 => if b = true then t E δ1 else u E δ1
theorem js_if {c : Expr} {p q : List Stmt} {tc : DT} {t u : DTS} (hc : JT X c tc) (hp : JSs X p t) (hq : JSs X q u) : JS X (.If c p q pos) (wIf tc t u) := ps_le (ps_if hc hp hq) fun pins s σ H D I ⟨B, G, δ, E, rel, hw, k⟩ => ⟨B, G, δ, _, rel, hw, fun b H1 G1 δ1 r1 s1 rel1 => by
  cases b with
  | true => rw [if_pos rfl] at r1 ⊢; exact ⟨B, G1, δ1, E, rel1, r1, k.mono s1⟩
  | false => rw [if_neg Bool.false_ne_true] at r1 ⊢; exact ⟨B, G1, δ1, E, rel1, r1, k.mono s1⟩⟩
/-- a statement or block that is never come to -/
def wNever : DTS := fun _ _ => False
theorem js_never : JS X st wNever := ps_le ps_never fun pins s σ H D I ⟨B, G, δ, E, rel, hw, k⟩ => hw.elim
theorem jss_never : JSs X rest wNever := pss_le pss_never fun pins s σ H D I ⟨B, G, δ, E, rel, hw, k⟩ => hw.elim
def wDrop (w : DE) : DTS := fun E δ => w δ fun _ δ1 => E.nx δ1
theorem js_expr {w : DE} (h : JE X e w) (hs : swapsWith e none pos.line X.env = pure false := by rfl) : JS X (.Expr e pos) (wDrop w) := ps_le (ps_expr h hs) fun pins s σ H D I ⟨B, G, δ, E, rel, hw, k⟩ => ⟨B, G, δ, _, rel, hw, fun v H1 G1 o δ1 r1 s1 rel1 ok1 => k.nx σ H1 G1 δ1 r1 s1 rel1⟩
def wSet (i : Nat) (w : DM) : DTS := fun E δ => w δ fun c δ1 => E.nx (δ1.set i c)
theorem js_set {i : Nat} {x : Str} {w : DM} {pos' : Pos} (hN : X.N.Nodup) (hi : X.N[i]? = some x) (hx : Loc X.env.scope x) (he : JM X e w) (hs : swapsWith e (some (.Name x pos')) pos.line X.env = pure false := by rfl) (hf : X.fn x = true ∨ X.env.scope.names.lookup x = some .local := by first | exact .inl rfl | exact .inr rfl | assumption) :
    JS X (.Assign [.Name x pos'] e pos) (wSet i w) := ps_le (ps_set hN hi hx he hs hf) fun pins s σ H D I ⟨B, G, δ, E, rel, hw, k⟩ => ⟨B, G, δ, _, rel, hw, fun v H1 G1 c δ1 r1 s1 rel1 hB ok1 => by
  have R2 := Rel.store (i := i) (l := []) (by rw [List.append_nil]; exact rel1) hB (fun _ _ m => nomatch m) ok1
  rw [bov_nil] at R2
  exact k.nx _ H1 G1 _ r1 s1 R2⟩
/-- a, b = e1, e2 -/
def wPar2 (i j : Nat) (w : DMs) : DTS := fun E δ => w δ fun cs δ1 => ∃ c d, cs = [c, d] ∧ E.nx ((δ1.set i c).set j d)
theorem js_par2 {i j : Nat} {x y : Str} {a b : Expr} {w : DMs} {px py pt : Pos} {kt k2 pt2} (hc : X.calm = true) (hN : X.N.Nodup) (hi : X.N[i]? = some x) (hj : X.N[j]? = some y) (hij : i ≠ j) (hx : X.env.scope.names.lookup x = some .local) (hy : X.env.scope.names.lookup y = some .local) (ha : JMs X [a, b] w)
    (hw : swappedStores [.Tuple [.Name x px, .Name y py] kt pt] (.Tuple [a, b] k2 pt2) X.env = pure (some [x, y]) := by rfl) (hs : swapsWithSole [.Tuple [.Name x px, .Name y py] kt pt] (.Tuple [a, b] k2 pt2) pos.line X.env = pure false := by rfl) :
    JS X (.Assign [.Tuple [.Name x px, .Name y py] kt pt] (.Tuple [a, b] k2 pt2) pos) (wPar2 i j w) := ps_le (ps_par hc hN hi hj hij hx hy ha hw hs) fun pins s σ H D I ⟨B, G, δ, E, rel, hw, k⟩ => ⟨B, G, δ, _, rel, hw, fun vs H1 G1 cs δ1 r1 s1 rel1 hB ok1 => by
  obtain ⟨c, d, rfl, q⟩ := r1
  cases ok1 with
  | cons h1 d1 t1 =>
    cases t1 with
    | cons h2 d2 t2 =>
      cases t2
      rename_i v u
      refine ⟨v, u, rfl, ?_⟩
      have e : fps [c, d] = c.fp ++ (d.fp ++ []) := by simp [fps]
      rw [e] at rel1
      have R2 := Rel.store (i := i) rel1 (fun a m => hB a (by simp [fps, m])) (fun a m => by have := d1 a m; simpa [fps] using this) h1
      have R3 := Rel.store (i := j) R2 (fun a m => hB a (by simp [fps, m])) (fun a m z => nomatch z) h2
      rw [bov_nil] at R3
      exact k.nx _ H1 G1 _ q s1 R3⟩
/-- x op= e -/
def wAug (i : Nat) (p : P2) (w : DE) : DTS := fun E δ => ∃ x, δ[i]? = some (.d x) ∧ w δ fun o δ1 => use o δ1 fun y => p x y fun z => E.nx (δ1.set i (.d z))
theorem js_aug {i : Nat} {x : Str} {w : DE} {op : Operator} {p : P2} {pos' : Pos} (hN : X.N.Nodup) (hi : X.N[i]? = some x) (hx : Loc X.env.scope x) (he : JE X e w) (ho : OpD X (inplaceOp op) p) (hf : X.fn x = true ∨ X.env.scope.names.lookup x = some .local := by first | exact .inl rfl | exact .inr rfl | assumption) :
    JS X (.AugAssign (.Name x pos') op e pos) (wAug i p w) := ps_le (ps_aug hN hi hx he (ti := rOf X.K p) ho hf) fun pins s σ H D I ⟨B, G, δ, E, rel, ⟨d, hd, hw⟩, k⟩ => by
  obtain ⟨o, hσ, v, rfl, dv⟩ := rel.at hd
  refine ⟨v, hσ, B, G, δ, _, rel, hw, fun u H1 G1 o δ1 r1 s1 rel1 ok1 => ?_⟩
  obtain ⟨y, q, by'⟩ := use_ok rel1 ok1 r1
  exact ⟨B, G1, δ1, σ, d, y, _, rel1, .inl (dv.mono s1), by', q, fun z H2 G2 dz rz s2 rel2 dnz => k.nx _ H2 G2 _ rz (s1.trans s2) (rel2.setD dnz)⟩
end
end DL
set_option Elab.async false
set_option linter.all false
set_option maxRecDepth 100000
set_option maxHeartbeats 4000000
namespace DL
open PySem PySem.Spec PyProof.Rows L2
variable [Tb]

/-! ### targets -/
abbrev DTG := PyData → DS → (DS → Prop) → Prop
abbrev DTGs := List PyData → DS → (DS → Prop) → Prop
/-- only the slots ts are stored -/
def Only (σ σ' : L2.St) (ts : List Nat) : Prop := ∀ vs : List Nat, (∀ t ∈ ts, t ∈ vs) → wipe σ' vs = wipe σ vs
theorem wipe_set {σ : L2.St} {i : Nat} {o : Option V} : ∀ {vs : List Nat}, i ∈ vs → wipe (σ.set i o) vs = wipe σ vs := by
  intro vs
  induction vs with
  | nil => intro h; cases h
  | cons v vs ih =>
    intro h
    unfold wipe
    by_cases hi : i ∈ vs
    · rw [ih hi]
    · have e : i = v := by
        rcases List.mem_cons.mp h with z | z
        · exact z
        · exact absurd z hi
      subst e
      have out : ∀ (σ : L2.St) (ws : List Nat), i ∉ ws → wipe (σ.set i o) ws = (wipe σ ws).set i o := by
        intro σ ws
        induction ws with
        | nil => intro _; rfl
        | cons w ws ih2 =>
          intro hw
          unfold wipe
          rw [ih2 (fun z => hw (List.mem_cons_of_mem _ z)), List.set_comm _ _ (fun z => hw (by rw [z]; exact List.mem_cons_self ..))]
      rw [out σ vs hi, List.set_set]
theorem Only.refl (σ : L2.St) (ts : List Nat) : Only σ σ ts := fun _ _ => rfl
theorem Only.trans {σ σ1 σ2 : L2.St} {ts us : List Nat} (a : Only σ σ1 ts) (b : Only σ1 σ2 us) : Only σ σ2 (ts ++ us) := fun vs h =>
  (b vs fun t m => h t (List.mem_append_right _ m)).trans (a vs fun t m => h t (List.mem_append_left _ m))
def upG (K : PySem.W.Frag) (ts : List Nat) (g : DTG) : TG := fun v σ H Q => ∃ B G δ x R, Rel K B G δ σ H ∧ Dn K G v x ∧ g x δ R ∧ ∀ σ' H' G' δ', R δ' → Same G G' → Rel K B G' δ' σ' H' → Only σ σ' ts → Q σ' H'
def upGs (K : PySem.W.Frag) (ts : List Nat) (g : DTGs) : TGs := fun vs σ H Q => ∃ B G δ xs R, Rel K B G δ σ H ∧ DnL K G vs xs ∧ g xs δ R ∧ ∀ σ' H' G' δ', R δ' → Same G G' → Rel K B G' δ' σ' H' → Only σ σ' ts → Q σ' H'
abbrev JG (X : Cx) (tg : Expr) (ts : List Nat) (g : DTG) : Prop := PG X tg (upG X.K ts g)
abbrev JGs (X : Cx) (tg : List Expr) (ts : List Nat) (g : DTGs) : Prop := PGs X tg (upGs X.K ts g)
def gN (i : Nat) : DTG := fun x δ R => R (δ.set i (.d x))
def gsNil : DTGs := fun xs δ R => match xs with
  | [] => R δ
  | _ => False
def gsCons (g : DTG) (r : DTGs) : DTGs := fun xs δ R => match xs with
  | x :: xs => g x δ fun δ1 => r xs δ1 R
  | [] => False
def gT (r : DTGs) : DTG := fun x δ R => match x with
  | .tuple xs => r xs δ R
  | _ => False
section
variable {X : Cx} {pos : Pos}
theorem pg_le {tg : Expr} {t t' : TG} (h : PG X tg t) (l : ∀ pins s v σ H Q, Inv X pins σ H s → t' v σ H Q → t v σ H Q) : PG X tg t' := ⟨fun pins s σ H v u Q I r q => h.run pins s σ H v u Q I r (l pins s v σ H Q I q)⟩
theorem pgs_le {tg : List Expr} {t t' : TGs} (h : PGs X tg t) (l : ∀ pins s v σ H Q, Inv X pins σ H s → t' v σ H Q → t v σ H Q) : PGs X tg t' := ⟨fun pins s σ H v u Q I r q => h.run pins s σ H v u Q I r (l pins s v σ H Q I q)⟩
theorem jg_name {i : Nat} {x : Str} (hN : X.N.Nodup) (hi : X.N[i]? = some x) (hx : Loc X.env.scope x) (hf : X.fn x = true ∨ X.env.scope.names.lookup x = some .local := by first | exact .inl rfl | exact .inr rfl | assumption) : JG X (.Name x pos) [i] (gN i) :=
  pg_le (pg_name hN hi hx hf) fun pins s v σ H Q I ⟨B, G, δ, d, R, rel, dn, hw, k⟩ => k _ H G _ hw (Same.refl _) (rel.setD dn) fun vs h => wipe_set (h i (List.mem_singleton.mpr rfl))
theorem jgs_nil : JGs X [] [] gsNil := pgs_le pgs_nil fun pins s v σ H Q I ⟨B, G, δ, d, R, rel, dn, hw, k⟩ => by
  cases dn with
  | nil => exact ⟨rfl, k σ H G δ hw (Same.refl _) rel (Only.refl _ _)⟩
  | cons a b => exact hw.elim
theorem jgs_cons {e : Expr} {es : List Expr} {ts us : List Nat} {g : DTG} {r : DTGs} (h1 : JG X e ts g) (h2 : JGs X es us r) (hs : (assignEach (e :: es) X.env).map (·.2) = assign e X.env :: (assignEach es X.env).map (·.2) := by rfl) : JGs X (e :: es) (ts ++ us) (gsCons g r) :=
  pgs_le (pgs_cons h1 h2 hs) fun pins s v σ H Q I ⟨B, G, δ, d, R, rel, dn, hw, k⟩ => by
    cases dn with
    | nil => exact hw.elim
    | cons a b => exact ⟨_, _, rfl, B, G, δ, _, _, rel, a, hw, fun σ1 H1 G1 δ1 r1 s1 rel1 o1 => ⟨B, G1, δ1, _, _, rel1, b.mono s1, r1, fun σ2 H2 G2 δ2 r2 s2 rel2 o2 => k σ2 H2 G2 δ2 r2 (s1.trans s2) rel2 (o1.trans o2)⟩⟩
theorem jg_tup {es : List Expr} {kk : Nat} {ts : List Nat} {r : DTGs} {n : Nat} (hc : X.calm = true) (h : JGs X es ts r) (hr : ∀ xs δ R, r xs δ R → xs.length = n)
    (hn : (assignEach es X.env).length = n := by rfl) (hst : (assignEach es X.env).findIdx? (·.1) = none := by rfl) : JG X (.Tuple es kk pos) ts (gT r) :=
  pg_le (pg_tup hc h hn hst) fun pins s v σ H Q I ⟨B, G, δ, d, R, rel, dn, hw, k⟩ => by
    cases dn with
    | tup hs ht => exact ⟨_, _, rfl, sqT_mono rel.sg (SqT.of hs), by rw [ht.len]; exact hr _ _ _ hw, B, G, δ, _, R, rel, ht, hw, k⟩
    | _ => exact hw.elim
end
theorem gs_len0 : ∀ xs δ R, gsNil xs δ R → xs.length = 0 := fun xs δ R h => by
  cases xs with
  | nil => rfl
  | cons x xs => exact h.elim
theorem gs_lenN {i : Nat} {r : DTGs} {n : Nat} (h : ∀ xs δ R, r xs δ R → xs.length = n) : ∀ xs δ R, gsCons (gN i) r xs δ R → xs.length = n + 1 := fun xs δ R q => by
  cases xs with
  | nil => exact q.elim
  | cons x xs => rw [List.length_cons, h xs _ R q]
theorem gs_lenT {t : DTGs} {r : DTGs} {n : Nat} (ht : ∀ xs δ R, t xs δ R → ∃ δ', R δ') (h : ∀ xs δ R, r xs δ R → xs.length = n) : ∀ xs δ R, gsCons (gT t) r xs δ R → xs.length = n + 1 := fun xs δ R q => by
  cases xs with
  | nil => exact q.elim
  | cons x xs =>
    have q' : gT t x δ fun δ1 => r xs δ1 R := q
    cases x with
    | tuple ys => obtain ⟨δ', z⟩ := ht ys δ _ q'; rw [List.length_cons, h xs _ R z]
    | _ => exact q'.elim
theorem gs_exN {i : Nat} {r : DTGs} (h : ∀ xs δ R, r xs δ R → ∃ δ', R δ') : ∀ xs δ R, gsCons (gN i) r xs δ R → ∃ δ', R δ' := fun xs δ R q => by
  cases xs with
  | nil => exact q.elim
  | cons x xs => exact h xs _ R q
theorem gs_ex0 : ∀ xs δ R, gsNil xs δ R → ∃ δ', R δ' := fun xs δ R q => by
  cases xs with
  | nil => exact ⟨δ, q⟩
  | cons x xs => exact q.elim

/-! ### walks -/
/-- J gives the items, whatever is done meanwhile -/
def WalkD (K : PySem.W.Frag) (J : It) (G : Hp) (xs : List PyData) : Prop := ∀ (B G2 : Hp) (δ : DS) (σ : L2.St) (H : Hp), Same G G2 → Rel K B G2 δ σ H →
  (∀ i, i < xs.length → J.go i H) ∧ J.stop xs.length H ∧ ∀ i x d H', xs[i]? = some d → J.yld i H x H' → ∃ G3, Same G2 G3 ∧ Rel K B G3 δ σ H' ∧ Dn K G3 x d
def upI (K : PySem.W.Frag) (w : DL) : TI := fun σ H R => ∃ B G δ R', Rel K B G δ σ H ∧ w δ R' ∧ ∀ J H' G' xs δ', R' xs δ' → Same G G' → Rel K B G' δ' σ H' → WalkD K J G' xs → xs.length ≤ sizeLine → R J H'
abbrev JI (X : Cx) (tg iter : Expr) (w : DL) : Prop := PI X tg iter (upI X.K w)
section
variable {X : Cx} {tg : Expr} {pos : Pos}
theorem pi_le {iter : Expr} {t t' : TI} (h : PI X tg iter t) (l : ∀ pins s σ H R, Inv X pins σ H s → t' σ H R → t σ H R) : PI X tg iter t' := ⟨fun pins s σ H R I q => h.run pins s σ H R I (l pins s σ H R I q)⟩
theorem walk_of_list {K : PySem.W.Frag} {G : Hp} {a : Addr} {vs : List V} {xs : List PyData} (h : G a = some (.lst vs)) (t : DnL K G vs xs) (inj : ∀ (B G2 : Hp) (δ : DS) (σ : L2.St) (H : Hp), Same G G2 → Rel K B G2 δ σ H → True) : WalkD K (Itl K a) G xs := fun B G2 δ σ H s rel => by
  have hH : SqL K H a vs := SqL.of (rel.sg _ _ (s _ _ h))
  have hl := t.len
  refine ⟨fun i hi => ⟨vs, vs[i]'(by omega), hH, List.getElem?_eq_getElem (by omega)⟩, ⟨vs, hH, by omega⟩, fun i x d H' hd y => ?_⟩
  obtain ⟨rfl, y⟩ := y
  obtain ⟨v, hv, dv⟩ := t.get hd
  have e := y vs hH
  rw [hv] at e; cases e
  exact ⟨G2, Same.refl _, rel, dv.mono s⟩
theorem walk_of_tup {K : PySem.W.Frag} {G : Hp} {a : Addr} {vs : List V} {xs : List PyData} (h : SqT K G a vs) (t : DnL K G vs xs) : WalkD K (Itt K a) G xs := fun B G2 δ σ H s rel => by
  have hH : SqT K H a vs := sqT_mono rel.sg (sqT_mono s h)
  have hl := t.len
  refine ⟨fun i hi => ⟨vs, vs[i]'(by omega), hH, List.getElem?_eq_getElem (by omega)⟩, ⟨vs, hH, by omega⟩, fun i x d H' hd y => ?_⟩
  obtain ⟨rfl, y⟩ := y
  obtain ⟨v, hv, dv⟩ := t.get hd
  have e := y vs hH
  rw [hv] at e; cases e
  exact ⟨G2, Same.refl _, rel, dv.mono s⟩
/-- for x in a tuple, a list -/
def iSeq (w : DE) : DL := fun δ R => w δ fun o δ1 => lk o δ1 fun x δ2 => match x with
  | .tuple xs => R xs δ2
  | .list xs => R xs δ2
  | _ => False
/-- iter of a tuple or a list -/
def iEither (K : PySem.W.Frag) (t : TE) : TI := fun σ H R => t σ H fun x H1 => ∃ a, x = .ref a ∧ ((∃ xs, SqL K H1 a xs ∧ R (Itl K a) H1) ∨ (∃ xs, SqT K H1 a xs ∧ R (Itt K a) H1))
theorem pi_either {l : Expr} {tl : TE} (hl : PE X l tl) : PI X tg l (iEither X.K tl) where
  run pins s σ H R I h := by
    refine wpAny_mono (hl.run pins s σ H _ I h) ?_ fun _ _ z => z
    rintro v ⟨hp, gs, dr, tk, os⟩ ⟨_, H1, I1, r1, a, rfl, q⟩
    cases r1
    have own : ∀ b ∈ [hp.objs.size], FpOk X pins H1 b := List.forall_mem_singleton.mpr (I1.fpOk (Nat.le_refl _) (I1.hok.fresh (Nat.le_refl _)))
    have kept : ∀ {o : Obj} b u, hp.get? b = some u → (hp.push o).get? b = some u := fun _ _ e => Heap.get?_push_of_some _ e
    rcases q with ⟨xs, isL, q⟩ | ⟨xs, isT, q⟩
    · obtain ⟨_, _, at_a, _⟩ := I1.list isL
      exact wpAny_pyIter_list at_a.isList ⟨_, _, _, _, H1, rfl, I1.kept (t' := tk) kept, turn_list a _, ⟨_, Heap.get?_push_size _ rfl, rfl, rfl⟩, own, q⟩
    · obtain ⟨its, _, at_a, _⟩ := I1.tuple isT
      exact wpAny_pyIter_tuple (show hp.IsTuple a its.toArray from at_a) ⟨_, _, _, _, H1, rfl, I1.kept (t' := tk) kept, turn_tuple a _, ⟨_, Heap.get?_push_size _ rfl, rfl, rfl⟩, own, q⟩
/-- what the length of a list or tuple is bounded by -/
theorem piB {l : Expr} {w : DE} (h : JE X l w) : PE X l (fun σ H Q => up X.K w σ H fun v H1 => (∀ a xs, v = .ref a → (SqL X.K H1 a xs ∨ SqT X.K H1 a xs) → xs.length ≤ sizeLine) → Q v H1) where
  run pins s σ H Q I q := wpAny_mono (h.run pins s σ H _ I q) (fun v s1 ⟨x, H1, I1, r1, q1⟩ => ⟨x, H1, I1, r1, q1 fun a xs _ hs => hs.elim (fun z => (I1.list z).elim fun _ z => z.2.2) (fun z => (I1.tuple z).elim fun _ z => z.2.2)⟩) fun _ _ z => z
theorem ji_seq {l : Expr} {w : DE} (h : JE X l w) : JI X tg l (iSeq w) := pi_le (pi_either (piB h)) fun pins s σ H R I ⟨B, G, δ, R', rel, hw, k⟩ => ⟨B, G, δ, _, rel, hw, fun v H1 G1 o δ1 r1 s1 rel1 ok1 hz => by
  obtain ⟨G2, δ2, x, q, s2, rel2, dn⟩ := lk_ok rel1 ok1 r1
  cases dn with
  | lst hs t => exact ⟨_, rfl, .inl ⟨_, SqL.of (rel2.sg _ _ hs), k _ H1 G2 _ δ2 q (s1.trans s2) rel2 (walk_of_list hs t fun _ _ _ _ _ _ _ => trivial) (by rw [← t.len]; exact hz _ _ rfl (.inl (SqL.of (rel2.sg _ _ hs))))⟩⟩
  | tup hs t => exact ⟨_, rfl, .inr ⟨_, sqT_mono rel2.sg (SqT.of hs), k _ H1 G2 _ δ2 q (s1.trans s2) rel2 (walk_of_tup (SqT.of hs) t) (by rw [← t.len]; exact hz _ _ rfl (.inr (sqT_mono rel2.sg (SqT.of hs))))⟩⟩
  | _ => exact q.elim⟩
/-- for i in range(n), range(m, n) -/
def nums (lo : Int) (n : Nat) : List PyData := (List.range n).map fun (i : Nat) => PyData.int (lo + (i : Int))
theorem walk_of_range {K : PySem.W.Frag} {G : Hp} {lo : Int} {n : Nat} : WalkD K (Itr lo n) G (nums lo n) := fun B G2 δ σ H s rel => by
  have hl : (nums lo n).length = n := by simp [nums]
  refine ⟨fun i hi => by rw [hl] at hi; exact hi, by rw [hl]; exact Nat.le_refl _, fun i x d H' hd y => ?_⟩
  obtain ⟨rfl, rfl⟩ := y
  unfold nums at hd
  rw [List.getElem?_map] at hd
  cases e : (List.range n)[i]? with
  | none => rw [e] at hd; cases hd
  | some j =>
    rw [e] at hd
    obtain ⟨h1, h2⟩ := List.getElem?_eq_some_iff.mp e
    rw [List.getElem_range] at h2
    cases hd
    subst h2
    exact ⟨G2, Same.refl _, rel, Dn.int _⟩
def iRange1 (w : DA) : DL := fun δ R => w δ fun os δ1 => useL os δ1 fun xs => ∃ j, xs = [PyData.int j] ∧ -1000000 ≤ j ∧ j ≤ 1000000 ∧ R (nums 0 j.toNat) δ1
def iRange2 (w : DA) : DL := fun δ R => w δ fun os δ1 => useL os δ1 fun xs => ∃ i j, xs = [PyData.int i, PyData.int j] ∧ (-1000000 ≤ i ∧ i ≤ 1000000 ∧ -1000000 ≤ j ∧ j ≤ 1000000) ∧ R (nums i (j - i).toNat) δ1
theorem nums_len {lo : Int} {n : Nat} : (nums lo n).length = n := by simp [nums]
theorem ji_range1 {a : Expr} {w : DA} {p : Pos} (hg : Gl X "range") (hm : X.mg "range" = none) (ha : JA X [a] w) (hs : starEach [a] X.env = [(false, eval a X.env)] := by rfl) : JI X tg (.Call (.Name "range" p) [a] [] pos) (iRange1 w) :=
  pi_le (pi_range1 hg hm ha hs) fun pins s σ H R I ⟨B, G, δ, R', rel, hw, k⟩ => ⟨B, G, δ, _, rel, hw, fun vs H1 G1 os δ1 r1 s1 rel1 ok1 => by
    obtain ⟨xs, ⟨j, rfl, h1, h2, q⟩, b⟩ := useL_ok rel1 ok1 r1
    obtain ⟨v, rfl, bv⟩ := b.one
    obtain rfl := bor_int bv
    exact ⟨j, rfl, by omega, by omega, k _ H1 G1 _ δ1 q s1 rel1 walk_of_range (by rw [nums_len, sizeLine_eq]; omega)⟩⟩
theorem ji_range2 {a b : Expr} {w : DA} {p : Pos} (hg : Gl X "range") (hm : X.mg "range" = none) (ha : JA X [a, b] w) (hs : starEach [a, b] X.env = [(false, eval a X.env), (false, eval b X.env)] := by rfl) (hs2 : starEach [b] X.env = [(false, eval b X.env)] := by rfl) : JI X tg (.Call (.Name "range" p) [a, b] [] pos) (iRange2 w) :=
  pi_le (pi_range2 hg hm ha hs hs2) fun pins s σ H R I ⟨B, G, δ, R', rel, hw, k⟩ => ⟨B, G, δ, _, rel, hw, fun vs H1 G1 os δ1 r1 s1 rel1 ok1 => by
    obtain ⟨xs, ⟨i, j, rfl, h1, q⟩, b⟩ := useL_ok rel1 ok1 r1
    obtain ⟨v, u, rfl, bv, bu⟩ := b.two
    obtain rfl := bor_int bv
    obtain rfl := bor_int bu
    exact ⟨i, j, rfl, ⟨by omega, by omega, by omega, by omega⟩, k _ H1 G1 _ δ1 q s1 rel1 walk_of_range (by rw [nums_len, sizeLine_eq]; omega)⟩⟩
/-- pairs -/
def pairsD : List PyData → List PyData → List PyData
  | x :: xs, y :: ys => .tuple [x, y] :: pairsD xs ys
  | _, _ => []
end
end DL
set_option Elab.async false
set_option linter.all false
set_option maxRecDepth 100000
set_option maxHeartbeats 4000000
namespace DL
open PySem PySem.Spec PyProof.Rows L2
variable [Tb]

/-! ### for, while -/
def forIt (g : DTG) (b : DTS) : List PyData → DEnds → DS → Prop
  | [], E, δ => E.nx δ
  | x :: xs, E, δ => g x δ fun δ1 => b { nx := forIt g b xs E, rt := E.rt, bk := E.nx, ct := forIt g b xs E } δ1
def wFor (wi : DL) (g : DTG) (b : DTS) : DTS := fun E δ => wi δ fun xs δ1 => forIt g b xs E δ1
section
variable {X : Cx} {pos : Pos}
theorem js_for {tg iter : Expr} {body : List Stmt} {wi : DL} {g : DTG} {b : DTS} {ts : List Nat} (hp : PassesOwn (model X.prog X.w) X.A X.env X.xe) (hc : X.calm = true) (hi : JI X tg iter wi) (hg : JG X tg ts g) (hb : JSs X body b)
    (hs : ∀ x, foldedSetIterable iter X.env x = pure x := by intro _; rfl) : JS X (.For tg iter body [] pos) (wFor wi g b) := ps_le (ps_for hp hc hi hg hb hs) fun pins s σ H D I ⟨B, G, δ, E, rel, hw, k⟩ => by
  refine ⟨B, G, δ, _, rel, hw, fun J H1 G1 xs δ1 r1 s1 rel1 wk hl => ?_⟩
  refine ⟨fun i m σ' H' => m = xs.length - i ∧ i ≤ xs.length ∧ ∃ G2 δ2, Same G1 G2 ∧ Rel X.K B G2 δ2 σ' H' ∧ forIt g b (xs.drop i) E δ2, ⟨xs.length, by simp, Nat.zero_le _, G1, δ1, Same.refl _, rel1, by simpa using r1⟩, ?_⟩
  rintro i m σ2 H2 ⟨rfl, hi', G2, δ2, s2, rel2, q⟩
  obtain ⟨go, stop, yld⟩ := wk B G2 δ2 σ2 H2 s2 rel2
  by_cases hlt : i < xs.length
  · have ed : xs.drop i = xs[i] :: xs.drop (i + 1) := List.drop_eq_getElem_cons hlt
    rw [ed] at q
    refine .inr ⟨go i hlt, fun σ' H' => ∃ G3 δ3, Same G1 G3 ∧ Rel X.K B G3 δ3 σ' H' ∧ forIt g b (xs.drop (i + 1)) E δ3, fun σ' H' ⟨G3, δ3, s3, rel3, q3⟩ => ⟨xs.length - (i + 1), by omega, rfl, hlt, G3, δ3, s3, rel3, q3⟩, fun x H3 y => ?_⟩
    obtain ⟨G3, s3, rel3, dn⟩ := yld i x _ H3 (List.getElem?_eq_getElem hlt) y
    refine ⟨B, G3, δ2, _, _, rel3, dn, q, fun σ4 H4 G4 δ4 r4 s4 rel4 _ => ?_⟩
    have sa := s1.trans (s2.trans (s3.trans s4))
    exact ⟨B, G4, δ4, _, rel4, r4, ⟨fun σ' H' G5 δ5 r5 s5 rel5 => ⟨G5, δ5, s2.trans (s3.trans (s4.trans s5)), rel5, r5⟩, fun v σ' H' G5 x5 δ5 r5 s5 rel5 d5 => k.rt v σ' H' G5 x5 δ5 r5 (sa.trans s5) rel5 d5,
      fun σ' H' G5 δ5 r5 s5 rel5 => k.nx σ' H' G5 δ5 r5 (sa.trans s5) rel5, fun σ' H' G5 δ5 r5 s5 rel5 => ⟨G5, δ5, s2.trans (s3.trans (s4.trans s5)), rel5, r5⟩⟩⟩
  · have e : i = xs.length := by omega
    subst e
    rw [List.drop_length] at q
    exact .inl ⟨stop, k.nx σ2 H2 G2 δ2 q (s1.trans s2) rel2⟩
def wWhile (c : DT) (b : DTS) : DTS := fun E δ => ∃ W : Nat → DS → Prop, (∃ m, W m δ) ∧ ∀ m δ, W m δ → c δ fun k δ1 => if k = true then b { nx := fun δ' => ∃ m', m' < m ∧ W m' δ', rt := E.rt, bk := E.nx, ct := fun δ' => ∃ m', m' < m ∧ W m' δ' } δ1 else E.nx δ1
theorem js_while {c : Expr} {body : List Stmt} {tc : DT} {b : DTS} (hp : PassesOwn (model X.prog X.w) X.A X.env X.xe) (hc : JT X c tc) (hb : JSs X body b) : JS X (.While c body [] pos) (wWhile tc b) := ps_le (ps_while hp hc hb) fun pins s σ H D I ⟨B, G, δ, E, rel, ⟨W, ⟨m0, w0⟩, turn⟩, k⟩ => by
  refine ⟨fun m σ' H' => ∃ G2 δ2, Same G G2 ∧ Rel X.K B G2 δ2 σ' H' ∧ W m δ2, ⟨m0, G, δ, Same.refl _, rel, w0⟩, ?_⟩
  rintro m σ2 H2 ⟨G2, δ2, s2, rel2, q⟩
  refine ⟨B, G2, δ2, _, rel2, turn m δ2 q, fun kb H3 G3 δ3 r3 s3 rel3 => ?_⟩
  cases kb with
  | false => rw [if_neg Bool.false_ne_true] at r3 ⊢; exact k.nx σ2 H3 G3 δ3 r3 (s2.trans s3) rel3
  | true =>
    rw [if_pos rfl] at r3 ⊢
    have sa := s2.trans s3
    refine ⟨fun σ' H' => ∃ G4 δ4, Same G G4 ∧ Rel X.K B G4 δ4 σ' H' ∧ ∃ m', m' < m ∧ W m' δ4, fun σ' H' ⟨G4, δ4, s4, rel4, m', hm, w4⟩ => ⟨m', hm, G4, δ4, s4, rel4, w4⟩, B, G3, δ3, _, rel3, r3, ?_⟩
    exact ⟨fun σ' H' G5 δ5 r5 s5 rel5 => ⟨G5, δ5, sa.trans s5, rel5, r5⟩, fun v σ' H' G5 x5 δ5 r5 s5 rel5 d5 => k.rt v σ' H' G5 x5 δ5 r5 (sa.trans s5) rel5 d5, fun σ' H' G5 δ5 r5 s5 rel5 => k.nx σ' H' G5 δ5 r5 (sa.trans s5) rel5, fun σ' H' G5 δ5 r5 s5 rel5 => ⟨G5, δ5, sa.trans s5, rel5, r5⟩⟩
end

/-! ### comprehensions -/
def wipeD (δ : DS) : List Nat → DS
  | [] => δ
  | v :: vs => (wipeD δ vs).set v .em
def keepC : Cell → Cell
  | .d x => .d x
  | _ => .em
def backD (δ0 δ : DS) : List Nat → DS
  | [] => δ
  | v :: vs => (backD δ0 δ vs).set v (keepC ((δ0[v]?).getD .em))
def compIt (g : DTG) (t : DT) (e : DE) (vs : List Nat) : List PyData → List PyData → DS → (List PyData → DS → Prop) → Prop
  | [], acc, δ, R => R acc δ
  | x :: xs, acc, δ, R => g x δ fun δ1 => t δ1 fun b δ2 => if b = true then e δ2 fun o δ3 => lk o δ3 fun y δ4 => compIt g t e vs xs (acc ++ [y]) (wipeD δ4 vs) R else compIt g t e vs xs acc (wipeD δ2 vs) R
def wComp (wi : DL) (g : DTG) (t : DT) (e : DE) (vs : List Nat) : DL := fun δ R => wi δ fun xs δ1 => compIt g t e vs xs [] (wipeD δ1 vs) fun ys δ2 => R ys (backD δ1 δ2 vs)
def tT : DT := fun δ R => R true δ
abbrev JTs (X : Cx) (es : List Expr) (w : DT) : Prop := PTs X es (upT X.K w)
section
variable {K : PySem.W.Frag} {B G H : Hp} {δ : DS} {σ : L2.St}
theorem Rel.wipe (R : Rel K B G δ σ H) : ∀ vs : List Nat, Rel K B G (wipeD δ vs) (L2.wipe σ vs) H
  | [] => R
  | v :: vs => (Rel.wipe R vs).clear none
theorem wipeD_em {i : Nat} : ∀ {vs : List Nat} {δ : DS}, i ∈ vs → (wipeD δ vs)[i]? = none ∨ (wipeD δ vs)[i]? = some .em
  | [], _, h => by cases h
  | v :: vs, δ, h => by
    unfold wipeD
    by_cases hv : v = i
    · subst hv
      rw [List.getElem?_set]
      simp only [if_true]
      split
      · exact .inr rfl
      · exact .inl rfl
    · rw [List.getElem?_set_ne hv]
      rcases List.mem_cons.mp h with z | z
      · exact absurd z.symm hv
      · exact wipeD_em z
theorem wipe_at {i : Nat} : ∀ {vs : List Nat} {σ : L2.St}, i ∉ vs → (L2.wipe σ vs)[i]? = σ[i]? := fun h => wipe_out h
theorem Rel.unwipe {vs : List Nat} {σ : L2.St} (R : Rel K B G (wipeD δ vs) (L2.wipe σ vs) H) : Rel K B G (wipeD δ vs) σ H := by
  refine ⟨by rw [← R.len, wipe_length], R.sg, R.sb, R.dj, fun i c o e1 e2 => ?_, R.ap, R.fr, R.tt⟩
  by_cases h : i ∈ vs
  · rcases wipeD_em (δ := δ) h with z | z
    · rw [z] at e1; cases e1
    · rw [z] at e1; cases e1; trivial
  · exact R.ok i c o e1 (by rw [wipe_at h]; exact e2)
theorem Rel.back {G0 : Hp} {δ0 : DS} {H0 : Hp} {B0 : Hp} (R : Rel K B G δ σ H) (R0 : Rel K B0 G0 δ0 σ H0) (s : Same G0 G) : ∀ vs : List Nat, Rel K B G (backD δ0 δ vs) σ H
  | [] => R
  | v :: vs => by
    have ih := Rel.back R R0 s vs
    have em : Rel K B G ((backD δ0 δ vs).set v .em) σ H := by
      cases hσ : σ[v]? with
      | some o => exact ih.recell hσ trivial fun a m => nomatch m
      | none =>
        have hl : (backD δ0 δ vs).length ≤ v := by
          rw [← ih.len]; exact List.getElem?_eq_none_iff.mp hσ
        rw [List.set_eq_of_length_le hl]; exact ih
    unfold backD
    cases e : δ0[v]? with
    | none => exact em
    | some c =>
      cases c with
      | d x =>
        obtain ⟨o, hσ, w, rfl, dn⟩ := R0.at e
        exact ih.recell hσ ⟨w, rfl, dn.mono s⟩ fun a m => nomatch m
      | _ => exact em
theorem wipe_set_in {i : Nat} {o : Option V} {σ : L2.St} : ∀ {vs : List Nat}, i ∈ vs → L2.wipe (σ.set i o) vs = L2.wipe σ vs := wipe_set
theorem wipe_wipe (σ : L2.St) (vs : List Nat) : L2.wipe (L2.wipe σ vs) vs = L2.wipe σ vs := by
  have h : ∀ (us : List Nat) (σ : L2.St), (∀ u ∈ us, u ∈ vs) → L2.wipe (L2.wipe σ us) vs = L2.wipe σ vs := by
    intro us
    induction us with
    | nil => intro σ _; rfl
    | cons u us ih =>
      intro σ hu
      show L2.wipe ((L2.wipe σ us).set u none) vs = _
      rw [wipe_set (hu u (List.mem_cons_self ..)), ih σ fun x m => hu x (List.mem_cons_of_mem _ m)]
  exact h vs σ fun _ m => m
end
section
variable {X : Cx} {pos : Pos}
theorem jts_nil : JTs X [] tT := ⟨fun pins s σ H Q I ⟨B, G, δ, R, rel, hw, k⟩ => pts_nil.run pins s σ H Q I (k true H G δ hw (Same.refl _) rel)⟩
theorem jts_one {c : Expr} {t : DT} (h : JT X c t) : JTs X [c] t := pts_one h
theorem comp_up {wi : DL} {g : DTG} {t : DT} {e : DE} {ts vs : List Nat} {K : PySem.W.Frag} {σ : L2.St} {H : Hp} {Q : VK} (hts : ∀ t ∈ ts, t ∈ vs) (h : upL K (wComp wi g t e vs) σ H Q) : tLc (upI K wi) (upG K ts g) (upT K t) (up K e) vs σ H Q := by
  obtain ⟨B, G, δ, R, rel, hw, k⟩ := h
  refine ⟨B, G, δ, _, rel, hw, fun J H1 G1 xs δ1 r1 s1 rel1 wk hl D nD => ?_⟩
  have bD := rel1.freeB nD
  refine ⟨fun i m H' => m = xs.length - i ∧ i ≤ xs.length ∧ ∃ accV accD G2 δ2, Same G1 G2 ∧ Rel K (upd B D (.lst accV)) G2 (wipeD δ2 vs) (wipe σ vs) H' ∧ DnL K G2 accV accD ∧ accV.length ≤ i ∧ compIt g t e vs (xs.drop i) accD (wipeD δ2 vs) (fun ys δ2 => R ys (backD δ1 δ2 vs)),
    ⟨xs.length, by simp, Nat.zero_le _, [], [], G1, δ1, Same.refl _, (rel1.growB nD).wipe vs, .nil, Nat.zero_le _, by simpa using r1⟩, ?_⟩
  rintro i m H2 ⟨rfl, hi, accV, accD, G2, δ2, s2, rel2, dacc, hal, q⟩
  obtain ⟨go, stop, yld⟩ := wk _ G2 _ _ H2 s2 rel2
  by_cases hlt : i < xs.length
  · have ed : xs.drop i = xs[i] :: xs.drop (i + 1) := List.drop_eq_getElem_cons hlt
    rw [ed] at q
    refine .inr ⟨go i hlt, fun H' => ∃ accV accD G3 δ3, Same G1 G3 ∧ Rel K (upd B D (.lst accV)) G3 (wipeD δ3 vs) (wipe σ vs) H' ∧ DnL K G3 accV accD ∧ accV.length ≤ i + 1 ∧ compIt g t e vs (xs.drop (i + 1)) accD (wipeD δ3 vs) (fun ys δ2 => R ys (backD δ1 δ2 vs)),
      fun H' ⟨a1, a2, a3, a4, a5, a6, a7, a8, a9⟩ => ⟨xs.length - (i + 1), by omega, rfl, hlt, a1, a2, a3, a4, a5, a6, a7, a8, a9⟩, fun x H3 y => ?_⟩
    obtain ⟨G3, s3, rel3, dn⟩ := yld i x _ H3 (List.getElem?_eq_getElem hlt) y
    refine ⟨_, G3, _, _, _, rel3, dn, q, fun σ4 H4 G4 δ4 r4 s4 rel4 ho => ?_⟩
    have ew : wipe σ4 vs = wipe σ vs := by rw [ho vs hts, wipe_wipe]
    refine ⟨ew, _, G4, δ4, _, rel4, r4, fun b H5 G5 δ5 r5 s5 rel5 => ?_⟩
    cases b with
    | false =>
      rw [if_neg Bool.false_ne_true] at r5 ⊢
      have R6 := rel5.wipe vs
      rw [ew] at R6
      exact ⟨accV, accD, G5, δ5, s2.trans (s3.trans (s4.trans s5)), R6, DnL.mono (s3.trans (s4.trans s5)) _ dacc, by omega, r5⟩
    | true =>
      rw [if_pos rfl] at r5 ⊢
      refine ⟨_, G5, δ5, _, rel5, r5, fun v H6 G6 o δ6 r6 s6 rel6 ok6 => ?_⟩
      obtain ⟨G7, δ7, z, q7, s7, rel7, dz⟩ := lk_ok rel6 ok6 r6
      refine ⟨accV, rel7.sb _ _ upd_same, by omega, accV ++ [v], accD ++ [z], G7, δ7, s2.trans (s3.trans (s4.trans (s5.trans (s6.trans s7)))), ?_, (DnL.mono (s3.trans (s4.trans (s5.trans (s6.trans s7)))) _ dacc).app (.cons dz .nil), by simp; omega, q7⟩
      have R8 := (rel7.putB (p := D) (o := .lst (accV ++ [v])) upd_same notTE_lst).wipe vs
      rw [upd_upd, ew] at R8
      exact R8
  · have e1 : i = xs.length := by omega
    subst e1
    rw [List.drop_length] at q
    refine .inl ⟨stop, ?_⟩
    exact k D accV H2 G2 accD _ q (s1.trans s2) (rel2.unwipe.back rel1 s2 vs) bD dacc
theorem jl_comp {elt tg iter : Expr} {ifs : List Expr} {scope : Scope} {own : List (Str × Nat)} {wi : DL} {g : DTG} {t : DT} {e : DE} {ts : List Nat} (hc : X.calm = true) (hN : X.N.Nodup) (hi : JI X tg iter wi) (ok : BlkOk X.N X.env.scope scope own) (hts : ∀ t ∈ ts, t ∈ own.map (·.2))
    (hg : ∀ (s : Shared) (H : Hp) (C : Addr) (cl : List (Str × Addr)) (fp : List Addr), JG (X.blk s H scope (compEnvC scope cl C X.env) fp) tg ts g) (ht : ∀ (s : Shared) (H : Hp) (C : Addr) (cl : List (Str × Addr)) (fp : List Addr), JTs (X.blk s H scope (compEnvC scope cl C X.env) fp) ifs t)
    (he : ∀ (s : Shared) (H : Hp) (C : Addr) (cl : List (Str × Addr)) (fp : List Addr), JE (X.blk s H scope (compEnvC scope cl C X.env) fp) elt e) (hs : ∀ x, foldedSetIterable iter X.env x = pure x := by intro _; rfl) :
    JL X (.ListComp elt [⟨tg, iter, ifs, 0⟩] scope pos) (wComp wi g t e (own.map (·.2))) :=
  pe_le (pe_lc hc hN hi ok hg ht he hs) fun _ _ _ _ _ _ h => comp_up hts h
theorem upM_l {w : DL} {K : PySem.W.Frag} {σ : L2.St} {H : Hp} {Q : VK} (h : upM K (mL w) σ H Q) : upL K w σ H Q := by
  obtain ⟨B, G, δ, R, rel, hw, k⟩ := h
  refine ⟨B, G, δ, _, rel, hw, fun a vs H1 G1 xs δ1 r1 s1 rel1 hB t => ?_⟩
  have ha : H1 a = some (.lst vs) := rel1.sb _ _ upd_same
  have e : bov B H1 [a] = upd B a (.lst vs) := by
    funext b
    unfold bov upd
    by_cases hb : b = a
    · subst hb; simp [ha]
    · simp [hb]
  exact k (.ref a) H1 G1 (.ol a xs) δ1 (r1 a) s1 (by show Rel K (bov B H1 [a]) G1 δ1 σ H1; rw [e]; exact rel1) (fun b m => by rw [List.mem_singleton.mp m]; exact hB) ⟨rfl, vs, ha, t⟩
theorem up_l {w : DL} {K : PySem.W.Frag} {σ : L2.St} {H : Hp} {Q : VK} (h : up K (wOfL w) σ H Q) : upL K w σ H Q := by
  obtain ⟨B, G, δ, R, rel, hw, k⟩ := h
  refine ⟨B, G, δ, _, rel, hw, fun a vs H' G' xs δ' r sG rel' hB t => ?_⟩
  obtain ⟨rel2, s2⟩ := rel'.takeB (p := a) hB (fun b hb => (upd_ne hb).symm) upd_same
  exact k _ H' _ _ _ r (sG.trans s2) rel2 (Dn.lst upd_same (t.mono s2))
theorem upM_e {w : DE} {K : PySem.W.Frag} {σ : L2.St} {H : Hp} {Q : VK} (h : upM K (mE w) σ H Q) : up K w σ H Q := by
  obtain ⟨B, G, δ, R, rel, hw, k⟩ := h
  refine ⟨B, G, δ, _, rel, hw, fun v H1 G1 o δ1 r1 s1 rel1 ok1 => ?_⟩
  obtain ⟨G2, δ2, x, q, s2, rel2, dn⟩ := lk_ok rel1 ok1 r1
  exact k v H1 G2 (.d x) δ2 q (s1.trans s2) (by show Rel K (bov B H1 []) G2 δ2 σ H1; rw [bov_nil]; exact rel2) (fun a m => nomatch m) ⟨v, rfl, dn⟩
/-- a statement name = value, by the value's way -/
theorem js_asg {st : Stmt} {i : Nat} {te : TE} {w : DM} (h : PS X st (tAsg te (gName i))) (l : ∀ σ H Q, upM X.K w σ H Q → te σ H Q) : JS X st (wSet i w) := ps_le h fun pins s σ H D I ⟨B, G, δ, E, rel, hw, k⟩ => by
  refine l σ H _ ⟨B, G, δ, _, rel, hw, fun v H1 G1 c δ1 r1 s1 rel1 hB ok1 => ?_⟩
  have R2 := Rel.store (i := i) (l := []) (by rw [List.append_nil]; exact rel1) hB (fun _ _ m => nomatch m) ok1
  rw [bov_nil] at R2
  exact k.nx _ H1 G1 _ r1 s1 R2
/-- x = [..], one's own -/
theorem js_setCL {i : Nat} {y : Str} {py spos : Pos} {elt tg iter : Expr} {ifs : List Expr} {scope : Scope} {own : List (Str × Nat)} {wi : DL} {g : DTG} {t : DT} {e : DE} {ts : List Nat} (hc : X.calm = true) (hN : X.N.Nodup) (hy : X.N[i]? = some y) (hyl : X.env.scope.names.lookup y = some .local)
    (hsw : swapsWith (.ListComp elt [⟨tg, iter, ifs, 0⟩] scope pos) (some (.Name y py)) spos.line X.env = pure true) (hi : JI X tg iter wi) (ok : BlkOk X.N X.env.scope scope own) (hts : ∀ t ∈ ts, t ∈ own.map (·.2))
    (hg : ∀ (s : Shared) (H : Hp) (C : Addr) (cl : List (Str × Addr)) (fp : List Addr), JG (X.blk s H scope (compEnvC scope cl C X.env) fp) tg ts g) (ht : ∀ (s : Shared) (H : Hp) (C : Addr) (cl : List (Str × Addr)) (fp : List Addr), JTs (X.blk s H scope (compEnvC scope cl C X.env) fp) ifs t)
    (he : ∀ (s : Shared) (H : Hp) (C : Addr) (cl : List (Str × Addr)) (fp : List Addr), JE (X.blk s H scope (compEnvC scope cl C X.env) fp) elt e) (hs : ∀ x, foldedSetIterable iter X.env x = pure x := by intro _; rfl) :
    JS X (.Assign [.Name y py] (.ListComp elt [⟨tg, iter, ifs, 0⟩] scope pos) spos) (wSet i (mL (wComp wi g t e (own.map (·.2))))) :=
  js_asg (ps_setLc hc hN hy hyl hsw hi ok hg ht he hs) fun σ H Q h => comp_up hts (upM_l h)
/-- x = [..], given away -/
theorem js_setCE {i : Nat} {y : Str} {py spos : Pos} {elt tg iter : Expr} {ifs : List Expr} {scope : Scope} {own : List (Str × Nat)} {wi : DL} {g : DTG} {t : DT} {e : DE} {ts : List Nat} (hc : X.calm = true) (hN : X.N.Nodup) (hy : X.N[i]? = some y) (hyl : X.env.scope.names.lookup y = some .local)
    (hsw : swapsWith (.ListComp elt [⟨tg, iter, ifs, 0⟩] scope pos) (some (.Name y py)) spos.line X.env = pure true) (hi : JI X tg iter wi) (ok : BlkOk X.N X.env.scope scope own) (hts : ∀ t ∈ ts, t ∈ own.map (·.2))
    (hg : ∀ (s : Shared) (H : Hp) (C : Addr) (cl : List (Str × Addr)) (fp : List Addr), JG (X.blk s H scope (compEnvC scope cl C X.env) fp) tg ts g) (ht : ∀ (s : Shared) (H : Hp) (C : Addr) (cl : List (Str × Addr)) (fp : List Addr), JTs (X.blk s H scope (compEnvC scope cl C X.env) fp) ifs t)
    (he : ∀ (s : Shared) (H : Hp) (C : Addr) (cl : List (Str × Addr)) (fp : List Addr), JE (X.blk s H scope (compEnvC scope cl C X.env) fp) elt e) (hs : ∀ x, foldedSetIterable iter X.env x = pure x := by intro _; rfl) :
    JS X (.Assign [.Name y py] (.ListComp elt [⟨tg, iter, ifs, 0⟩] scope pos) spos) (wSet i (mE (wOfL (wComp wi g t e (own.map (·.2)))))) :=
  js_asg (ps_setLc hc hN hy hyl hsw hi ok hg ht he hs) fun σ H Q h => comp_up hts (up_l (upM_e h))
/-! ### lists of one's own, changed -/
def isOl (δ : DS) (i : Nat) : Prop := ∃ a xs, δ[i]? = some (.ol a xs)
def wAppend (i : Nat) (w : DE) : DTS := fun E δ => isOl δ i ∧ w δ fun o δ1 => lk o δ1 fun y δ2 => match δ2[i]? with
  | some (.ol a xs) => xs.length ≤ 1000000 ∧ E.nx (δ2.set i (.ol a (xs ++ [y])))
  | _ => False
theorem js_append {i : Nat} {e : Expr} {x : Str} {w : DE} {px apos cpos : Pos} (hx : PE X (.Name x px) (tVar i)) (he : JE X e w) (hs : swapsWith (.Call (.Attribute (.Name x px) "append" apos) [e] [] cpos) none pos.line X.env = pure false := by rfl) (hsE : starEach [e] X.env = (false, eval e X.env) :: starEach [] X.env := by rfl)
    (hb : PE X (.Call (.Attribute (.Name x px) "append" apos) [e] [] cpos) (tBM X.K "list" rAppend (tVar i) (tCons (up X.K w) tNil))) : JS X (.Expr (.Call (.Attribute (.Name x px) "append" apos) [e] [] cpos) pos) (wAppend i w) :=
  ps_le (ps_expr hb hs) fun pins s σ H D I ⟨B, G, δ, E, rel, ⟨⟨a, xs, hδ⟩, hw⟩, k⟩ => by
    obtain ⟨o, hσ, rfl, vs, ha, t⟩ := rel.at hδ
    refine ⟨.ref a, hσ, .inl ⟨rfl, _, SqL.of ha⟩, B, G, δ, _, rel, hw, fun v H1 G1 o δ1 r1 s1 rel1 ok1 => ?_⟩
    obtain ⟨G2, δ2, y, q, s2, rel2, dn⟩ := lk_ok rel1 ok1 r1
    cases e2 : δ2[i]? with
    | none => rw [e2] at q; exact q.elim
    | some c =>
      rw [e2] at q
      cases c with
      | ol b ys =>
        obtain ⟨o2, hσ2, e3, ws, hb, t2⟩ := rel2.at e2
        rw [hσ] at hσ2
        cases hσ2
        cases e3
        obtain ⟨q1, q2⟩ := q
        refine ⟨a, ws, v, rfl, rfl, hb, by rw [t2.len, sizeLine_eq]; omega, ?_⟩
        exact k.nx _ _ G2 _ q2 (s1.trans s2) (rel2.write e2 (t2.app (.cons dn .nil)))
      | _ => exact q.elim
def wExtend (i : Nat) (w : DE) : DTS := fun E δ => isOl δ i ∧ w δ fun o δ1 => use o δ1 fun y => ∃ ys, y = .list ys ∧ match δ1[i]? with
  | some (.ol a xs) => xs.length + ys.length ≤ 1000000 ∧ E.nx (δ1.set i (.ol a (xs ++ ys)))
  | _ => False
theorem js_extend {i : Nat} {e : Expr} {x : Str} {w : DE} {px apos cpos : Pos} (hx : PE X (.Name x px) (tVar i)) (he : JE X e w) (hs : swapsWith (.Call (.Attribute (.Name x px) "extend" apos) [e] [] cpos) none pos.line X.env = pure false := by rfl) (hsE : starEach [e] X.env = (false, eval e X.env) :: starEach [] X.env := by rfl)
    (hb : PE X (.Call (.Attribute (.Name x px) "extend" apos) [e] [] cpos) (tBM X.K "list" rExtend (tVar i) (tCons (up X.K w) tNil))) : JS X (.Expr (.Call (.Attribute (.Name x px) "extend" apos) [e] [] cpos) pos) (wExtend i w) :=
  ps_le (ps_expr hb hs) fun pins s σ H D I ⟨B, G, δ, E, rel, ⟨⟨a, xs, hδ⟩, hw⟩, k⟩ => by
    obtain ⟨o, hσ, rfl, vs, ha, t⟩ := rel.at hδ
    refine ⟨.ref a, hσ, .inl ⟨rfl, _, SqL.of ha⟩, B, G, δ, _, rel, hw, fun v H1 G1 o δ1 r1 s1 rel1 ok1 => ?_⟩
    obtain ⟨y, ⟨ys, rfl, q⟩, by'⟩ := use_ok rel1 ok1 r1
    obtain ⟨b, zs, rfl, hb, tb⟩ := bor_lst rel1 by'
    cases e2 : δ1[i]? with
    | none => rw [e2] at q; exact q.elim
    | some c =>
      rw [e2] at q
      cases c with
      | ol a' ws =>
        obtain ⟨o2, hσ2, e3, us, hu, t2⟩ := rel1.at e2
        rw [hσ] at hσ2
        cases hσ2
        cases e3
        obtain ⟨q1, q2⟩ := q
        refine ⟨a, b, us, zs, rfl, rfl, hu, hb, by rw [t2.len, tb.len]; exact million q1, ?_⟩
        exact k.nx _ _ G1 _ q2 s1 (rel1.write e2 (t2.app tb))
      | _ => exact q.elim
/-- x[i] = e -/
def wPut (i : Nat) (we wi : DE) : DTS := fun E δ => we δ fun o δ1 => lk o δ1 fun y δ2 => isOl δ2 i ∧ wi δ2 fun oj δ3 => use oj δ3 fun j => match j, δ3[i]? with
  | .int j, some (.ol a xs) => ∃ n, ixN xs.length j = some n ∧ E.nx (δ3.set i (.ol a (xs.set n y)))
  | _, _ => False
theorem js_put {i : Nat} {e j : Expr} {x : Str} {we wi : DE} {px apos : Pos} (hj : JE X j wi) (he : JE X e we)
    (hb : PS X (.Assign [.Subscript (.Name x px) j apos] e pos) (tAsg (up X.K we) (gSub (tVar i) (up X.K wi) rSetL))) : JS X (.Assign [.Subscript (.Name x px) j apos] e pos) (wPut i we wi) :=
  ps_le hb fun pins s σ H D I ⟨B, G, δ, E, rel, hw, k⟩ => ⟨B, G, δ, _, rel, hw, fun v H1 G1 o δ1 r1 s1 rel1 ok1 => by
    obtain ⟨G2, δ2, y, q, s2, rel2, dn⟩ := lk_ok rel1 ok1 r1
    obtain ⟨⟨a, xs, hδ⟩, q⟩ := q
    obtain ⟨o0, hσ, rfl, vs, ha, t⟩ := rel2.at hδ
    refine ⟨.ref a, hσ, B, G2, δ2, _, rel2, q, fun u H3 G3 oj δ3 r3 s3 rel3 ok3 => ?_⟩
    obtain ⟨jd, q3, bj⟩ := use_ok rel3 ok3 r3
    cases jd with
    | int jn =>
      cases e2 : δ3[i]? with
      | none => rw [e2] at q3; exact q3.elim
      | some c =>
        rw [e2] at q3
        cases c with
        | ol a' ws =>
          obtain ⟨o2, hσ2, e3, us, hu, t2⟩ := rel3.at e2
          rw [hσ] at hσ2
          cases hσ2
          cases e3
          obtain ⟨n, hn, q4⟩ := q3
          refine ⟨a, us, jn, n, rfl, bor_int bj, hu, by rw [t2.len]; exact hn, ?_⟩
          exact k.nx _ _ G3 _ q4 (s1.trans (s2.trans s3)) (rel3.write e2 (DnL.set (dn.mono s3) n t2))
        | _ => exact q3.elim
    | _ => exact q3.elim⟩
/-- x.pop() of a list of one's own -/
def wPop (i : Nat) : DE := fun δ R => match δ[i]? with
  | some (.ol a xs) => ∃ y, xs.getLast? = some y ∧ R (.d y) (δ.set i (.ol a xs.dropLast))
  | _ => False
theorem je_pop {i : Nat} {x : Str} {px apos : Pos} (hb : PE X (.Call (.Attribute (.Name x px) "pop" apos) [] [] pos) (tBM0 X.K "list" rPop (tVar i))) : JE X (.Call (.Attribute (.Name x px) "pop" apos) [] [] pos) (wPop i) :=
  pe_le hb fun pins s σ H Q I ⟨B, G, δ, R, rel, hw, k⟩ => by
    unfold wPop at hw
    cases e2 : δ[i]? with
    | none => rw [e2] at hw; exact hw.elim
    | some c =>
      rw [e2] at hw
      cases c with
      | ol a xs =>
        obtain ⟨y, hy, q⟩ := hw
        obtain ⟨o, hσ, rfl, vs, ha, t⟩ := rel.at e2
        rw [List.getLast?_eq_getElem?, ← t.len] at hy
        obtain ⟨v, hv, dv⟩ := t.get hy
        refine ⟨.ref a, hσ, .inl ⟨rfl, _, SqL.of ha⟩, a, vs, v, rfl, rfl, ha, hv, ?_⟩
        exact k _ _ G _ _ q (Same.refl _) (rel.write e2 t.dropLast) dv
      | _ => exact hw.elim
end
end DL
set_option Elab.async false
set_option linter.all false
set_option maxRecDepth 100000
set_option maxHeartbeats 4000000
namespace DL
open PySem PySem.Spec PyProof.Rows L2
variable [Tb]

/-! ### defs, where no guard of repr is about -/
structure RoomG (k : Nat) (A : Around) : Prop where
  rm : Room k A
  gd : A.guards = some []
theorem RoomG.mono {j k : Nat} {A : Around} (r : RoomG k A) (h : j ≤ k) : RoomG j A := ⟨r.rm.mono h, r.gd⟩
theorem RoomG.deeper {k : Nat} {A : Around} (r : RoomG (k + 1) A) (env : Env) : RoomG k (A.deeper env) := ⟨r.rm.deeper env, r.gd⟩
theorem RoomG.u64 {k : Nat} {A : Around} (r : RoomG k A) : A.units + 64 < cLine := r.rm.units
theorem RoomG.u65 {k : Nat} {A : Around} (r : RoomG k A) : A.units + 65 < cLine := by have := r.rm.un; omega
structure FnG (P : Program) (w : World) (K : PySem.W.Frag) (mg : Str → Option Value) (base : Heap) (CX : CXT) (k : Nat) (f : Addr) (fd : FuncData) (ps : List Str) (sp : Sp) : Prop where
  len (vs : List V) (H : Hp) (Q : VK) (E : XK) (_ : sp vs H Q E) : vs.length = ps.length
  run : ∀ (A : Around) (outer : List Env) (s : Shared) (H : Hp) (args : Args) (us : List Value) (vs : List V) (Q : VK) (E : XK), RoomG k A → Env0 P w K mg base A outer s H →
    BindsTo s fd args (ps.zip us) → Vals vs us → sp vs H Q E → codeAny (model P w) A (.call (.ref f) args) (CR CX outer P w H s Q E) s
section
variable {P : Program} {w : World} {K : PySem.W.Frag} {mg : Str → Option Value} {base : Heap} {CX : CXT}
theorem FnG.mono {j k : Nat} {f : Addr} {fd : FuncData} {ps : List Str} {sp : Sp} (F : FnG P w K mg base CX j f fd ps sp) (h : j ≤ k) : FnG P w K mg base CX k f fd ps sp :=
  ⟨F.len, fun A outer s H args us vs Q E hr => F.run A outer s H args us vs Q E (hr.mono h)⟩
theorem FnG.ofOk {k : Nat} {f : Addr} {fd : FuncData} {ps : List Str} {sp : Sp} (F : FnOk P w K mg base CX k f fd ps sp) : FnG P w K mg base CX k f fd ps sp :=
  ⟨F.len, fun A outer s H args us vs Q E hr => F.run A outer s H args us vs Q E hr.rm⟩
theorem fnG_of {k : Nat} {f : Addr} {name qual : Str} {params : Arguments} {body : List Stmt} {scope : Scope} {dV kV doc pm cdv ct oc : Value} {an od : Option Addr} {osl : Array (Option Value)} {N ps : List Str} {sp : Sp}
    (lk : K.lookup f = some ⟨oc, od, .func (PySem.W.fnOf name qual params body scope dV kV doc pm an cdv ct), osl⟩) (hcd : PySem.W.codeIn K cdv qual = true) (S : FnScope N ps scope) (len : ∀ vs H Q E, sp vs H Q E → vs.length = ps.length)
    (hbody : ∀ (A : Around) (outer : List Env) (s : Shared) (H : Hp) (vs : List V) (Q : VK) (E : XK), RoomG k (A.deeper (envOfC qual scope s.heap.objs.size f cdv)) → sp vs H Q E →
      ∃ t, PSs (cxOf CX P w K mg base N qual scope f cdv A outer s H E) body t ∧ t { nx := fun _ H' => Q .non H', rt := Q } (L2.start N vs) H) : FnG P w K mg base CX (k + 1) f (PySem.W.fnOf name qual params body scope dV kV doc pm an cdv ct) ps sp := by
  refine ⟨len, ?_⟩
  intro A outer s H args us vs Q E room e0 binds r hsp
  have many : vs.length = ps.length := len _ _ _ _ hsp
  have kept : ∀ b o, base.get? b = some o → s.heap.get? b = some o := fun b o e => (e0.bs b o e).1
  have kinds : ∀ y ∈ ps.zip us, scope.names.lookup y.1 = some .local ∨
      (scope.names.lookup y.1 = some .cell ∧ ((cellsFrom (s.heap.objs.size + 1) scope.names []).lookup y.1).isSome = true) := by
    rintro ⟨n, v⟩ m
    rcases S.par n (List.of_mem_zip m).1 with q | q
    · exact .inl q
    · exact .inr ⟨q, PySem.W.cellsFrom_some _ _ _ (.inl q)⟩
  have kin := e0.mod.kin.keeps kept
  refine codeAny_call_function room.rm.depth (kin _ _ lk) rfl S.co S.gen rfl (PySem.W.codeRec_of kin hcd) (binds _ _ _ _ (wpAny_newFunctionEnv_cells S.kind kinds ?_))
  rintro _ rfl s1 made
  obtain ⟨t, body', ht⟩ := hbody A outer s H vs Q E (room.deeper _) hsp
  refine ⟨(e0.mod.nolimit.keeps kept).keeps made.toInCall.keep, codeAny_func (wpAny_mono (body'.run [] s1 (L2.start N vs) H _ (inv_start (CX := CX) (E := E) (N := N) (qual := qual) (f := f) (cd := cdv) S room.rm.hd e0 many r made) ht) ?_ fun _ _ z => z)⟩
  rintro (_ | _ | _ | u) s' g
  · obtain ⟨_, H', J, q⟩ := g; exact ⟨V.non, H', J.os, J.bare, J.base, J.hok, rfl, q⟩
  · exact g.elim fun _ g => g.elim fun _ g => g.2.elim
  · exact g.elim fun _ g => g.elim fun _ g => g.2.elim
  · obtain ⟨v, _, H', J, rv, q⟩ := g; exact ⟨v, H', J.os, J.bare, J.base, J.hok, rv, q⟩
end

/-! ### promises over data -/
abbrev DSp := List Cell → (PyData → List Cell → Prop) → Prop
def liftSp (K : PySem.W.Frag) (sp : DSp) : Sp := fun vs H Q _ => ∃ B G cs R, Rel K B G cs (vs.map some) H ∧ sp cs R ∧ ∀ v H' G' x cs', R x cs' → Same G G' → Rel K B G' cs' (vs.map some) H' → Dn K G' v x → Q v H'
/-- what the arguments' cells are behind the call: data stays, one's own is as the slot tells -/
def outC : List Cell → DS → List Cell
  | [], _ => []
  | .d x :: cs, _ :: δ => .d x :: outC cs δ
  | .em :: cs, _ :: δ => .em :: outC cs δ
  | .scr a ns :: cs, _ :: δ => .scr a ns :: outC cs δ
  | .dx a b c xs n ys :: cs, _ :: δ => .dx a b c xs n ys :: outC cs δ
  | _ :: cs, e :: δ => e :: outC cs δ
  | _, [] => []
def sameIo : List Cell → DS → Prop
  | [], _ => True
  | .ol a _ :: cs, e :: δ => (∃ ys, e = .ol a ys) ∧ sameIo cs δ
  | .dk a b c :: cs, e :: δ => e = .dk a b c ∧ sameIo cs δ
  | .dx .. :: cs, e :: δ => False
  | .xc .. :: cs, e :: δ => False
  | .od a _ :: cs, e :: δ => (∃ ys, e = .od a ys) ∧ sameIo cs δ
  | _ :: cs, _ :: δ => sameIo cs δ
  | _ :: _, [] => False
theorem outC_at : ∀ {cs : List Cell} {δ : DS} {i : Nat} {c : Cell}, sameIo cs δ → (outC cs δ)[i]? = some c → ∃ c0, cs[i]? = some c0 ∧ (((∃ x, c0 = .d x) ∨ c0 = .em ∨ ∃ a ns, c0 = .scr a ns) ∧ c = c0 ∨ (∃ a xs ys, c0 = .ol a xs ∧ c = .ol a ys ∧ δ[i]? = some c) ∨ (∃ a b d, c0 = .dk a b d ∧ c = c0 ∧ δ[i]? = some c) ∨ (∃ a xs ys, c0 = .od a xs ∧ c = .od a ys ∧ δ[i]? = some c))
  | [], _, _, _, _, h => by simp [outC] at h
  | c0 :: cs, [], _, _, s, h => by cases c0 <;> exact s.elim
  | c0 :: cs, e :: δ, 0, c, s, h => by
    refine ⟨c0, rfl, ?_⟩
    cases c0 with
    | em => simp [outC] at h; exact .inl ⟨.inr (.inl rfl), h.symm⟩
    | scr a ns => simp [outC] at h; exact .inl ⟨.inr (.inr ⟨a, ns, rfl⟩), h.symm⟩
    | dx => exact s.elim
    | xc => exact s.elim
    | d x => simp [outC] at h; exact .inl ⟨.inl ⟨x, rfl⟩, h.symm⟩
    | ol a xs => simp [outC] at h; obtain ⟨⟨ys, e1⟩, _⟩ := s; exact .inr (.inl ⟨a, xs, ys, rfl, by rw [← h, e1], by simp [h]⟩)
    | dk a b d => simp [outC] at h; obtain ⟨e1, _⟩ := s; exact .inr (.inr (.inl ⟨a, b, d, rfl, by rw [← h, e1], by simp [h]⟩))
    | od a xs => simp [outC] at h; obtain ⟨⟨ys, e1⟩, _⟩ := s; exact .inr (.inr (.inr ⟨a, xs, ys, rfl, by rw [← h, e1], by simp [h]⟩))
  | c0 :: cs, e :: δ, i + 1, c, s, h => by
    have s' : sameIo cs δ := by cases c0 <;> first | exact s | exact s.2 | exact s.elim
    have h' : (outC cs δ)[i]? = some c := by cases c0 <;> simpa [outC] using h
    obtain ⟨c1, e1, q⟩ := outC_at s' h'
    refine ⟨c1, by simpa using e1, ?_⟩
    simpa using q
theorem outC_len : ∀ {cs : List Cell} {δ : DS}, sameIo cs δ → (outC cs δ).length = cs.length
  | [], _, _ => rfl
  | c0 :: cs, [], s => by cases c0 <;> exact s.elim
  | c0 :: cs, e :: δ, s => by
    have s' : sameIo cs δ := by cases c0 <;> first | exact s | exact s.2 | exact s.elim
    cases c0 <;> simp [outC, outC_len s']
def endsOf (cs : List Cell) (R : PyData → List Cell → Prop) : DEnds := { nx := fun δ => sameIo cs δ ∧ R .none (outC cs δ), rt := fun x δ => sameIo cs δ ∧ R x (outC cs δ) }
def start0 (n : Nat) (cs : List Cell) : DS := cs ++ List.replicate (n - cs.length) .em
section
variable {P : Program} {w : World} {K : PySem.W.Frag} {mg : Str → Option Value} {base : Heap}
theorem rel_start {B G H : Hp} {cs : List Cell} {vs : List V} {N : List Str} (R : Rel K B G cs (vs.map some) H) : Rel K B G (start0 N.length cs) (L2.start N vs) H := by
  have hl : vs.length = cs.length := by have := R.len; simpa using this
  have get : ∀ {i : Nat} {c : Cell}, (start0 N.length cs)[i]? = some c → cs[i]? = some c ∨ c = Cell.em := fun {i c} e => by
    unfold start0 at e
    by_cases hi : i < cs.length
    · rw [List.getElem?_append_left hi] at e; exact .inl e
    · rw [List.getElem?_append_right (by omega), List.getElem?_replicate] at e
      split at e
      · cases e; exact .inr rfl
      · cases e
  refine ⟨by simp [start0, L2.start, hl], R.sg, R.sb, R.dj, fun i c o e1 e2 => ?_, fun i j c c' a e1 e2 m1 m2 => ?_, fun i c a e m => ?_, R.tt⟩
  · rcases get e1 with q | rfl
    · have hi : i < cs.length := (List.getElem?_eq_some_iff.mp q).1
      unfold L2.start at e2
      rw [List.getElem?_append_left (by rw [List.length_map, hl]; exact hi)] at e2
      exact R.ok i c o q e2
    · trivial
  · rcases get e1 with q1 | rfl
    · rcases get e2 with q2 | rfl
      · exact R.ap i j c c' a q1 q2 m1 m2
      · cases m2
    · cases m1
  · rcases get e with q | rfl
    · exact R.fr i c a q m
    · cases m
theorem rel_end {B G G' H H' : Hp} {cs : List Cell} {vs : List V} {δ : DS} {σ : L2.St} (R0 : Rel K B G cs (vs.map some) H) (R : Rel K B G' δ σ H') (s : Same G G') (io : sameIo cs δ) : Rel K B G' (outC cs δ) (vs.map some) H' := by
  refine ⟨by rw [outC_len io, ← R0.len], R.sg, R.sb, R.dj, fun i c o e1 e2 => ?_, fun i j c c' a e1 e2 m1 m2 => ?_, fun i c a e m => ?_, R.tt⟩
  · obtain ⟨c0, e0, q⟩ := outC_at io e1
    have ok0 := R0.ok i c0 o e0 e2
    rcases q with ⟨h, rfl⟩ | ⟨a, xs, ys, rfl, rfl, ed⟩ | ⟨a, b, d, rfl, rfl, ed⟩ | ⟨a, xs, ys, rfl, rfl, ed⟩
    · rcases h with ⟨x, rfl⟩ | rfl | ⟨a, ns, rfl⟩
      · obtain ⟨v, e, dn⟩ := ok0; exact ⟨v, e, dn.mono s⟩
      · trivial
      · exact ⟨ok0.1, s.seq ok0.2⟩
    · obtain ⟨o', _, _, r⟩ := R.at ed
      exact ⟨ok0.1, r⟩
    · obtain ⟨o', _, _, r⟩ := R.at ed
      exact ⟨ok0.1, r⟩
    · obtain ⟨o', _, _, r⟩ := R.at ed
      exact ⟨ok0.1, r⟩
  · obtain ⟨c0, e0, q⟩ := outC_at io e1
    obtain ⟨c1, e3, q'⟩ := outC_at io e2
    have h1 : δ[i]? = some c := by
      rcases q with ⟨h, rfl⟩ | ⟨a, xs, ys, rfl, rfl, ed⟩ | ⟨a, b, d, rfl, rfl, ed⟩ | ⟨a, xs, ys, rfl, rfl, ed⟩
      · rcases h with ⟨x, rfl⟩ | rfl | ⟨a, ns, rfl⟩ <;> cases m1
      · exact ed
      · exact ed
      · exact ed
    have h2 : δ[j]? = some c' := by
      rcases q' with ⟨h, rfl⟩ | ⟨a, xs, ys, rfl, rfl, ed⟩ | ⟨a, b, d, rfl, rfl, ed⟩ | ⟨a, xs, ys, rfl, rfl, ed⟩
      · rcases h with ⟨x, rfl⟩ | rfl | ⟨a, ns, rfl⟩ <;> cases m2
      · exact ed
      · exact ed
      · exact ed
    exact R.ap i j c c' a h1 h2 m1 m2
  · obtain ⟨c0, e0, q⟩ := outC_at io e
    have h1 : δ[i]? = some c := by
      rcases q with ⟨h, rfl⟩ | ⟨a, xs, ys, rfl, rfl, ed⟩ | ⟨a, b, d, rfl, rfl, ed⟩ | ⟨a, xs, ys, rfl, rfl, ed⟩
      · rcases h with ⟨x, rfl⟩ | rfl | ⟨a, ns, rfl⟩ <;> cases m
      · exact ed
      · exact ed
      · exact ed
    exact R.fr i c a h1 m
/-- THE RULE: a def keeps its promise over data, by its body's reading -/
theorem okD {x qual : Str} {st : Stmt} {f : Addr} {fd : FuncData} {N ps : List Str} {k : Nat} {sp : DSp} {wb : DTS} (F : Fun K x qual st f fd) (S : FnScope N ps (defScope st)) (dl : ∀ cs R, sp cs R → cs.length = ps.length)
    (body : ∀ (cdv : Value) (A : Around) (outer : List Env) (s : Shared) (H : Hp) (E : XK), RoomG k (A.deeper (envOfC qual (defScope st) s.heap.objs.size f cdv)) → JSs (cxOf CX0 P w K mg base N qual (defScope st) f cdv A outer s H E).nox (defBody st) wb)
    (rd : ∀ cs R, sp cs R → wb (endsOf cs R) (start0 N.length cs)) : FnG P w K mg base CX0 (k + 1) f fd ps (liftSp K sp) := by
  obtain ⟨oc, od, kV, doc, pm, an, cdv, ct, osl, rfl, lk, hcd⟩ := F.ex
  refine fnG_of lk hcd S (fun vs H Q E ⟨B, G, cs, R, rel, hs, _⟩ => by rw [← dl cs R hs, ← rel.len, List.length_map]) fun A outer s H vs Q E hr ⟨B, G, cs, R, rel, hs, k⟩ => ?_
  refine ⟨_, (body cdv A outer s H E hr).nox, B, G, _, endsOf cs R, rel_start rel, rd cs R hs, ?_⟩
  exact ⟨fun σ' H' G' δ' ⟨io, r⟩ sG rel' => k _ H' G' _ _ r sG (rel_end rel rel' sG io) .non, fun v σ' H' G' x δ' ⟨io, r⟩ sG rel' dn => k v H' G' x _ r sG (rel_end rel rel' sG io) dn, fun _ _ _ _ h => h.elim, fun _ _ _ _ h => h.elim⟩
end

/-! ### calls -/
/-- own slots that are handed over (m: which), the other operands given away -/
def lkM : List Bool → List Opd → DS → (List Opd → DS → Prop) → Prop
  | _, [], δ, k => k [] δ
  | m, o :: os, δ, k => if m.headD false = true then lkM m.tail os δ fun r δ' => k (o :: r) δ' else lk o δ fun x δ1 => lkM m.tail os δ1 fun r δ' => k (.d x :: r) δ'
def cellOf (δ : DS) : Opd → Cell
  | .d x => .d x
  | .s i => (δ[i]?).getD .em
def putBack : List Opd → List Cell → DS → DS
  | .s i :: os, c :: cs, δ => putBack os cs (δ.set i c)
  | .d _ :: os, _ :: cs, δ => putBack os cs δ
  | _, _, δ => δ
def slotsOf : List Opd → List Nat
  | [] => []
  | .s i :: os => i :: slotsOf os
  | .d _ :: os => slotsOf os
def wCall (m : List Bool) (sp : DSp) (w : DA) : DE := fun δ R => w δ fun os δ1 => lkM m os δ1 fun os' δ2 => (slotsOf os').Nodup ∧ sp (os'.map (cellOf δ2)) fun x cs => R (.d x) (putBack os' cs δ2)
theorem lkM_ok {K : PySem.W.Frag} {B H : Hp} {σ : L2.St} : ∀ {m : List Bool} {vs : List V} {os : List Opd} {G : Hp} {δ : DS} {k : List Opd → DS → Prop}, Rel K B G δ σ H → OpdsOk K G σ vs os → lkM m os δ k → ∃ G' δ' os', k os' δ' ∧ Same G G' ∧ Rel K B G' δ' σ H ∧ OpdsOk K G' σ vs os'
  | _, _, [], G, δ, k, R, h, q => by cases h; exact ⟨G, δ, [], by simpa [lkM] using q, Same.refl _, R, .nil⟩
  | m, _, o :: os, G, δ, k, R, h, q => by
    cases h with
    | cons a b =>
      unfold lkM at q
      split at q
      · obtain ⟨G1, δ1, os', q1, s1, R1, ok1⟩ := lkM_ok R b q
        exact ⟨G1, δ1, o :: os', q1, s1, R1, .cons (a.mono s1) ok1⟩
      · obtain ⟨G1, δ1, x, q1, s1, R1, d1⟩ := lk_ok R a q
        obtain ⟨G2, δ2, os', q2, s2, R2, ok2⟩ := lkM_ok R1 (b.mono s1) q1
        exact ⟨G2, δ2, .d x :: os', q2, s1.trans s2, R2, .cons (Dn.mono s2 _ d1) ok2⟩
theorem mem_slots {os : List Opd} {i : Nat} : i ∈ slotsOf os ↔ ∃ j : Nat, os[j]? = some (Opd.s i) := by
  induction os with
  | nil => simp [slotsOf]
  | cons o os ih =>
    cases o with
    | d x =>
      simp only [slotsOf, ih]
      constructor
      · rintro ⟨j, e⟩; exact ⟨j + 1, by simpa using e⟩
      · rintro ⟨j, e⟩
        cases j with
        | zero => simp at e
        | succ j => exact ⟨j, by simpa using e⟩
    | s i' =>
      simp only [slotsOf, List.mem_cons, ih]
      constructor
      · rintro (rfl | ⟨j, e⟩)
        · exact ⟨0, rfl⟩
        · exact ⟨j + 1, by simpa using e⟩
      · rintro ⟨j, e⟩
        cases j with
        | zero => simp at e; exact .inl e.symm
        | succ j => exact .inr ⟨j, by simpa using e⟩
theorem slots_uniq {os : List Opd} (h : (slotsOf os).Nodup) : ∀ {j k i : Nat}, os[j]? = some (Opd.s i) → os[k]? = some (Opd.s i) → j = k := by
  induction os with
  | nil => intro j k i e; simp at e
  | cons o os ih =>
    intro j k i e1 e2
    have h' : (slotsOf os).Nodup := by
      cases o with
      | d x => exact h
      | s i' => exact (List.nodup_cons.mp h).2
    cases j with
    | zero =>
      cases k with
      | zero => rfl
      | succ k =>
        simp at e1; subst e1
        exact absurd (mem_slots.mpr ⟨k, by simpa using e2⟩) (List.nodup_cons.mp h).1
    | succ j =>
      cases k with
      | zero =>
        simp at e2; subst e2
        exact absurd (mem_slots.mpr ⟨j, by simpa using e1⟩) (List.nodup_cons.mp h).1
      | succ k => exact congrArg (· + 1) (ih (i := i) h' (by simpa using e1) (by simpa using e2))
theorem opds_at {K : PySem.W.Frag} {G : Hp} {σ : L2.St} : ∀ {vs : List V} {os : List Opd} {j : Nat} {o : Opd}, OpdsOk K G σ vs os → os[j]? = some o → ∃ v, vs[j]? = some v ∧ OpdOk K G σ v o
  | _, [], _, _, h, e => by simp at e
  | _, o :: os, 0, _, h, e => by cases h with | cons a b => simp at e; subst e; exact ⟨_, rfl, a⟩
  | _, o :: os, j + 1, x, h, e => by
    cases h with
    | cons a b =>
      obtain ⟨v, h1, h2⟩ := opds_at (j := j) b (by simpa using e)
      exact ⟨v, by simpa using h1, h2⟩
theorem opds_len {K : PySem.W.Frag} {G : Hp} {σ : L2.St} : ∀ {vs : List V} {os : List Opd}, OpdsOk K G σ vs os → vs.length = os.length
  | _, [], h => by cases h; rfl
  | _, o :: os, h => by cases h with | cons a b => simp [opds_len b]
/-- what a callee must leave as it is: what is kept for others, and the slots' own objects that aren't handed over -/
noncomputable def hold (B H : Hp) (δ : DS) (io : List Nat) : Hp := by
  classical
  exact fun a => if ∃ i c, δ[i]? = some c ∧ a ∈ c.fp ∧ i ∉ io then H a else B a
section
variable {K : PySem.W.Frag} {B G H : Hp} {δ : DS} {σ : L2.St} {io : List Nat} {a : Addr}
theorem hold_in (h : ∃ i c, δ[i]? = some c ∧ a ∈ c.fp ∧ i ∉ io) : hold B H δ io a = H a := by unfold hold; exact if_pos h
theorem hold_out (h : ¬ ∃ i c, δ[i]? = some c ∧ a ∈ c.fp ∧ i ∉ io) : hold B H δ io a = B a := by unfold hold; exact if_neg h
theorem call_rel {vs : List V} {os : List Opd} (R : Rel K B G δ σ H) (ok : OpdsOk K G σ vs os) (nd : (slotsOf os).Nodup) : Rel K (hold B H δ (slotsOf os)) G (os.map (cellOf δ)) (vs.map some) H := by
  have getc : ∀ {j : Nat} {c : Cell}, (os.map (cellOf δ))[j]? = some c → ∃ o, os[j]? = some o ∧ c = cellOf δ o := fun {j c} e => by
    rw [List.getElem?_map] at e
    cases h : os[j]? with
    | none => rw [h] at e; cases e
    | some o => rw [h] at e; cases e; exact ⟨o, rfl, rfl⟩
  have own : ∀ {j : Nat} {c : Cell} {a : Addr}, (os.map (cellOf δ))[j]? = some c → a ∈ c.fp → ∃ i, os[j]? = some (.s i) ∧ δ[i]? = some c := fun {j c a} e m => by
    obtain ⟨o, e1, rfl⟩ := getc e
    cases o with
    | d x => cases m
    | s i =>
      refine ⟨i, e1, ?_⟩
      have m' : a ∈ ((δ[i]?).getD Cell.em).fp := m
      show δ[i]? = some ((δ[i]?).getD Cell.em)
      cases h : δ[i]? with
      | none => rw [h] at m'; cases m'
      | some c => rfl
  refine ⟨by simp [opds_len ok], R.sg, fun a o e => ?_, fun a => ?_, fun j c o e1 e2 => ?_, fun j k c c' a e1 e2 m1 m2 => ?_, fun j c a e m => ?_, R.tt⟩
  · by_cases h : ∃ i c, δ[i]? = some c ∧ a ∈ c.fp ∧ i ∉ slotsOf os
    · rw [hold_in h] at e; exact e
    · rw [hold_out h] at e; exact R.sb _ _ e
  · by_cases h : ∃ i c, δ[i]? = some c ∧ a ∈ c.fp ∧ i ∉ slotsOf os
    · obtain ⟨i, c, h1, h2, _⟩ := h
      exact .inl (R.fr i c a h1 h2).1
    · rw [hold_out h]; exact R.dj a
  · obtain ⟨od, e3, rfl⟩ := getc e1
    obtain ⟨v, e4, okv⟩ := opds_at ok e3
    rw [List.getElem?_map, e4] at e2
    cases e2
    cases od with
    | d x => exact ⟨v, rfl, okv⟩
    | s i =>
      have hσ : σ[i]? = some (some v) := okv
      show CellOk K G H ((δ[i]?).getD Cell.em) (some v)
      cases h : δ[i]? with
      | none => trivial
      | some c => exact R.ok i c _ h hσ
  · obtain ⟨i, h1, h2⟩ := own e1 m1
    obtain ⟨i', h3, h4⟩ := own e2 m2
    have := R.ap i i' c c' a h2 h4 m1 m2
    subst this
    exact slots_uniq nd h1 h3
  · obtain ⟨i, h1, h2⟩ := own e m
    obtain ⟨f1, f2⟩ := R.fr i c a h2 m
    refine ⟨f1, ?_⟩
    rw [hold_out]
    · exact f2
    · rintro ⟨i', c', h3, h4, h5⟩
      have := R.ap i i' c c' a h2 h3 m h4
      subst this
      exact h5 (mem_slots.mpr ⟨j, h1⟩)
theorem putBack_at : ∀ {os : List Opd} {cs : List Cell} {δ : DS} {i : Nat} {c : Cell}, os.length = cs.length → (slotsOf os).Nodup → (putBack os cs δ)[i]? = some c → (i ∉ slotsOf os ∧ δ[i]? = some c) ∨ ∃ j : Nat, os[j]? = some (Opd.s i) ∧ cs[j]? = some c
  | [], cs, δ, i, c, hl, nd, h => by unfold putBack at h; exact .inl ⟨(fun m => nomatch m), h⟩
  | o :: os, [], δ, i, c, hl, nd, h => by simp at hl
  | .d x :: os, c0 :: cs, δ, i, c, hl, nd, h => by
    rcases putBack_at (os := os) (cs := cs) (by simpa using hl) nd (by simpa [putBack] using h) with ⟨h1, h2⟩ | ⟨j, h1, h2⟩
    · exact .inl ⟨h1, h2⟩
    · exact .inr ⟨j + 1, by simpa using h1, by simpa using h2⟩
  | .s i0 :: os, c0 :: cs, δ, i, c, hl, nd, h => by
    rcases putBack_at (os := os) (cs := cs) (by simpa using hl) (List.nodup_cons.mp nd).2 (by simpa [putBack] using h) with ⟨h1, h2⟩ | ⟨j, h1, h2⟩
    · by_cases hi : i0 = i
      · subst hi
        rw [List.getElem?_set] at h2
        simp only [if_true] at h2
        split at h2
        · cases h2; exact .inr ⟨0, rfl, rfl⟩
        · cases h2
      · rw [List.getElem?_set_ne hi] at h2
        exact .inl ⟨fun m => by rcases List.mem_cons.mp m with z | z; exact hi z.symm; exact h1 z, h2⟩
    · exact .inr ⟨j + 1, by simpa using h1, by simpa using h2⟩
theorem putBack_len : ∀ {os : List Opd} {cs : List Cell} {δ : DS}, (putBack os cs δ).length = δ.length
  | [], cs, δ => by simp [putBack]
  | .d _ :: os, [], δ => by rfl
  | .s _ :: os, [], δ => by rfl
  | .d _ :: os, c :: cs, δ => by simp [putBack, putBack_len]
  | .s _ :: os, c :: cs, δ => by simp [putBack, putBack_len]
theorem call_back {G' H' : Hp} {vs : List V} {os : List Opd} {cs : List Cell} (R : Rel K B G δ σ H) (ok : OpdsOk K G σ vs os) (nd : (slotsOf os).Nodup) (s : Same G G') (R' : Rel K (hold B H δ (slotsOf os)) G' cs (vs.map some) H') : Rel K B G' (putBack os cs δ) σ H' := by
  have hlen : os.length = cs.length := by rw [← opds_len ok, ← R'.len, List.length_map]
  have sb : Same B H' := fun a o e => by
    by_cases h : ∃ i c, δ[i]? = some c ∧ a ∈ c.fp ∧ i ∉ slotsOf os
    · obtain ⟨i, c, h1, h2, _⟩ := h
      rw [(R.fr i c a h1 h2).2] at e; cases e
    · exact R'.sb a o (by rw [hold_out h]; exact e)
  have keep : ∀ {i : Nat} {c : Cell} {a : Addr}, i ∉ slotsOf os → δ[i]? = some c → a ∈ c.fp → H' a = H a ∧ hold B H δ (slotsOf os) a = H a := fun {i c a} h1 h2 h3 => by
    have e := hold_in (B := B) (H := H) ⟨i, c, h2, h3, h1⟩
    obtain ⟨o, eo⟩ := R.tr h2 h3
    exact ⟨by rw [R'.sb a o (by rw [e]; exact eo), eo], e⟩
  refine ⟨by rw [putBack_len]; exact R.len, R'.sg, sb, fun a => ?_, fun i c o e1 e2 => ?_, fun i k c c' a e1 e2 m1 m2 => ?_, fun i c a e m => ?_, R'.tt⟩
  · by_cases h : ∃ i c, δ[i]? = some c ∧ a ∈ c.fp ∧ i ∉ slotsOf os
    · obtain ⟨i, c, h1, h2, _⟩ := h
      exact .inr (R.fr i c a h1 h2).2
    · have := R'.dj a
      rw [hold_out h] at this; exact this
  · rcases putBack_at hlen nd e1 with ⟨h1, h2⟩ | ⟨j, h1, h2⟩
    · exact (R.ok i c o h2 e2).stay s fun a m => (keep h1 h2 m).1
    · obtain ⟨v, h3, h4⟩ := opds_at ok h1
      have h5 : σ[i]? = some (some v) := h4
      rw [h5] at e2; cases e2
      exact R'.ok j c (some v) h2 (by rw [List.getElem?_map, h3]; rfl)
  · rcases putBack_at hlen nd e1 with ⟨h1, h2⟩ | ⟨j, h1, h2⟩
    · rcases putBack_at hlen nd e2 with ⟨h3, h4⟩ | ⟨j', h3, h4⟩
      · exact R.ap i k c c' a h2 h4 m1 m2
      · obtain ⟨_, f2⟩ := R'.fr j' c' a h4 m2
        rw [(keep h1 h2 m1).2] at f2
        obtain ⟨o, eo⟩ := R.tr h2 m1
        rw [eo] at f2; cases f2
    · rcases putBack_at hlen nd e2 with ⟨h3, h4⟩ | ⟨j', h3, h4⟩
      · obtain ⟨_, f2⟩ := R'.fr j c a h2 m1
        rw [(keep h3 h4 m2).2] at f2
        obtain ⟨o, eo⟩ := R.tr h4 m2
        rw [eo] at f2; cases f2
      · have := R'.ap j j' c c' a h2 h4 m1 m2
        subst this
        rw [h1] at h3; cases h3; rfl
  · rcases putBack_at hlen nd e with ⟨h1, h2⟩ | ⟨j, h1, h2⟩
    · obtain ⟨f1, f2⟩ := R.fr i c a h2 m
      refine ⟨?_, f2⟩
      rcases R'.dj a with z | z
      · exact z
      · rw [(keep h1 h2 m).2] at z
        obtain ⟨o, eo⟩ := R.tr h2 m
        rw [eo] at z; cases z
    · obtain ⟨f1, f2⟩ := R'.fr j c a h2 m
      refine ⟨f1, ?_⟩
      by_cases h : ∃ i c, δ[i]? = some c ∧ a ∈ c.fp ∧ i ∉ slotsOf os
      · obtain ⟨i', c', h3, h4, _⟩ := h
        exact (R.fr i' c' a h3 h4).2
      · rw [hold_out h] at f2; exact f2
end
section
variable {X : Cx} {CX : CXT} {k : Nat} {f : Addr} {fd : FuncData} {ps : List Str} {x : Str} {p pos : Pos} {e : Expr} {es : List Expr}
theorem run_fnG {sp : Sp} {E : XK} {pins : List (Addr × Obj)} {σ : L2.St} {H : Hp} {s : Shared} {Q : VK} {us : List Value} {vs : List V} (F : FnG X.prog X.w X.K X.mg X.base CX k f fd ps sp) (hr : RoomG k X.A) (hb : Binds X.K fd ps []) (hx : Passes CX X E)
    (I : Inv X pins σ H s) (r : Vals vs us) (h : sp vs H Q E) : wpAny (model X.prog X.w) X.A (call (.ref f) us) (EP X pins σ Q) X.xe s := by
  have many : (us ++ []).length = ps.length := (List.append_nil us).symm ▸ r.length.symm.trans (F.len _ _ _ _ h)
  have bound : BindsTo s fd ⟨us, []⟩ (ps.zip us) := by have := hb s us I.kIn many; rwa [List.append_nil] at this
  refine wpAny_call (codeAny_mono (F.run X.A X.stack s H ⟨us, []⟩ us vs Q E hr I.env0 bound r h) ?_)
  rintro (err | _ | _ | _ | u) z back <;> first | exact hx pins σ H s err z I back | exact False.elim back | exact I.after back
theorem pe_callG {sp : Sp} {E : XK} {t : TA} (F : FnG X.prog X.w X.K X.mg X.base CX k f fd ps sp) (hr : RoomG k X.A) (hg : Gl X x) (hm : X.mg x = some (.ref f)) (hk : PySem.W.keepIn X.K (.ref f) = true) (hb : Binds X.K fd ps []) (hx : Passes CX X E)
    (ha : PA X (e :: es) t) (hdb : (x == ("__debug__" : Str)) = false := by decide) (he : starEach (e :: es) X.env = (false, eval e X.env) :: starEach es X.env := by rfl) (hpl : (backTo pos (starEach es X.env)).any (·.1) = false := by rfl) : PE X (.Call (.Name x p) (e :: es) [] pos) (tCall sp [] E t) := by
  exact ⟨fun pins s σ H Q I h => wpAny_Call_Name_kw (ld_glob I hg hm (PySem.W.callWith_K (h₀ := X.base) I.ok.mod.kin hk (wpAny_mono (ha.run pos pins s σ H _ I h)
    (fun us z ⟨vs, H1, I1, r, q⟩ => ⟨I1.kIn, run_fnG F hr hb hx I1 r (by have q : sp (vs ++ []) H1 Q E := q; rwa [List.append_nil] at q)⟩) fun _ _ z => z) he hpl) hdb)⟩
theorem je_call {m : List Bool} {sp : DSp} {w : DA} (F : FnG X.prog X.w X.K X.mg X.base CX0 k f fd ps (liftSp X.K sp)) (hr : RoomG k X.A) (hg : Gl X x) (hm : X.mg x = some (.ref f)) (hk : PySem.W.keepIn X.K (.ref f) = true) (hb : Binds X.K fd ps [])
    (ha : JA X (e :: es) w) (hdb : (x == ("__debug__" : Str)) = false := by decide) (he : starEach (e :: es) X.env = (false, eval e X.env) :: starEach es X.env := by rfl) (hpl : (backTo pos (starEach es X.env)).any (·.1) = false := by rfl) : JE X (.Call (.Name x p) (e :: es) [] pos) (wCall m sp w) :=
  pe_le (pe_callG (E := E0) F hr hg hm hk hb pass0 ha hdb he hpl) fun pins s σ H Q I ⟨B, G, δ, R, rel, hw, k⟩ => ⟨B, G, δ, _, rel, hw, fun vs H1 G1 os δ1 r1 s1 rel1 ok1 => by
    obtain ⟨G2, δ2, os', ⟨nd, q⟩, s2, rel2, ok2⟩ := lkM_ok rel1 ok1 r1
    rw [List.append_nil]
    exact ⟨_, G2, _, _, call_rel rel2 ok2 nd, q, fun v H' G' z cs r s3 rel3 dn => k v H' G' _ _ r (s1.trans (s2.trans s3)) (call_back rel2 ok2 nd s3 rel3) dn⟩⟩
end
end DL
set_option Elab.async false
set_option linter.all false
set_option maxRecDepth 100000
set_option maxHeartbeats 4000000
namespace DL
open PySem PySem.Spec PyProof.Rows L2
variable [Tb]

/-! ### what zip and enumerate walk along: lists and tuples -/
inductive Src where
  | l (a : Addr)
  | t (a : Addr)
def Src.ad : Src → Addr
  | .l a => a
  | .t a => a
def Src.is (h : Heap) (its : Array Value) : Src → Prop
  | .l a => h.IsList a its
  | .t a => h.IsTuple a its
def Src.iter (h : Heap) (it : Addr) (n : Nat) : Src → Prop
  | .l a => h.IsListIter it a n
  | .t a => h.IsTupleIter it a n
def Src.ob : Src → Obj
  | .l a => { cls := .type "list_iterator", data := .fields #[.ref a, .int 0 0] }
  | .t a => { cls := .type "tuple_iterator", data := .fields #[.ref a, .int 0 0] }
def SrcOk (K : PySem.W.Frag) (H : Hp) (S : Src) (xs : List V) : Prop := match S with
  | .l a => SqL K H a xs
  | .t a => SqT K H a xs
theorem Src.draws {prog : Program} {w : World} {A : Around} (hh : A.handled = none) (S : Src) (it : Addr) (hne : S.ad ≠ it) (items : Array Value) :
    Draws prog w A it [it, S.ad] items.size (fun i v => items[i]? = some v) (fun i h => S.iter h it i ∧ S.is h items) := by
  cases S with
  | l a => exact Draws.list hh it a hne items
  | t a => exact Draws.tuple hh it a hne items
theorem Src.begins (S : Src) (items : Array Value) : Begins (.ref S.ad) S.ob fun h => S.is h items := by
  cases S with
  | l a => exact begins_list a items
  | t a => exact begins_tuple a items
theorem Src.lt {S : Src} {h : Heap} {its : Array Value} (x : S.is h its) : S.ad < h.objs.size := by
  cases S with
  | l a => obtain ⟨o, e, _⟩ := x; exact Heap.lt_size e
  | t a => obtain ⟨o, e, _⟩ := x; exact Heap.lt_size e
theorem Src.iter_keep {S : Src} {h h' : Heap} {it : Addr} {n : Nat} (x : S.iter h it n) (k : ∀ o, h.get? it = some o → h'.get? it = some o) : S.iter h' it n := by
  cases S with
  | l a => exact Heap.IsListIter.at x k
  | t a => exact Heap.IsTupleIter.at x k
theorem Src.iter_of {S : Src} {h : Heap} {it : Addr} (e : h.get? it = some S.ob) : S.iter h it 0 := by
  cases S with
  | l a => exact ⟨_, e, rfl, rfl⟩
  | t a => exact ⟨_, e, rfl, rfl⟩
theorem Src.iter_obj {S : Src} {h : Heap} {it : Addr} {n : Nat} (x : S.iter h it n) : ∃ o, h.get? it = some o ∧ ∀ v, o.data ≠ .cell v := by
  cases S with
  | l a => obtain ⟨o, e, c, d⟩ := x; exact ⟨o, e, fun v z => by rw [d] at z; cases z⟩
  | t a => obtain ⟨o, e, c, d⟩ := x; exact ⟨o, e, fun v z => by rw [d] at z; cases z⟩
theorem src_get {X : Cx} {pins : List (Addr × Obj)} {σ : L2.St} {H : Hp} {s : Shared} {S : Src} {xs : List V} (I : Inv X pins σ H s) (h : SrcOk X.K H S xs) : ∃ its : List Value, Vals xs its ∧ S.is s.heap its.toArray ∧ xs.length ≤ sizeLine := by
  cases S with
  | l a => obtain ⟨its, rv, p, hz⟩ := I.list h; exact ⟨its, rv, p.isList, hz⟩
  | t a => obtain ⟨its, rv, p, hz⟩ := I.tuple h; exact ⟨its, rv, p, hz⟩
theorem src_inj {X : Cx} {pins : List (Addr × Obj)} {σ : L2.St} {H : Hp} {s : Shared} {S : Src} {xs ys : List V} (I : Inv X pins σ H s) (h : SrcOk X.K H S xs) (h' : SrcOk X.K H S ys) : xs = ys := by
  cases S with
  | l a => exact I.list_inj h h'
  | t a => exact I.tuple_inj h h'
/-- the value that is walked along -/
def srcV (v : V) (S : Src) : Prop := v = .ref S.ad

/-! ### walks that hand out new tuples: what zip and enumerate have in common -/
/-- a footprint's objects are there, and none is a cell -/
def Sits (ch : List Addr) (h : Heap) : Prop := ∀ b ∈ ch, ∃ o, h.get? b = some o ∧ ∀ v, o.data ≠ .cell v
theorem Sits.nil {h : Heap} : Sits [] h := fun _ m => nomatch m
theorem Sits.put {b : Addr} {ch : List Addr} {h : Heap} {o : Obj} (e : h.get? b = some o) (n : ∀ v, o.data ≠ .cell v) (t : Sits ch h) : Sits (b :: ch) h :=
  List.forall_mem_cons.mpr ⟨⟨o, e, n⟩, t⟩
theorem Sits.src {S : Src} {b : Addr} {ch : List Addr} {h : Heap} {n : Nat} (e : S.iter h b n) (t : Sits ch h) : Sits (b :: ch) h :=
  List.forall_mem_cons.mpr ⟨Src.iter_obj e, t⟩
/-- a new tuple lies on top, and of what was there only the footprint has turned -/
theorem row_laid {X : Cx} {pins : List (Addr × Obj)} {σ : L2.St} {H : Hp} {s : Shared} {ch : List Addr} {h' : Heap} {tk : Nat} {row : List V} {us : List Value}
    (I : Inv X pins σ H s) (own : ∀ b ∈ ch, FpOk X pins H b) (sit : Sits ch s.heap) (same : ∀ b o, b ∉ ch → s.heap.get? b = some o → h'.get? b = some o)
    (short : row.length ≤ sizeLine) (r : Vals row us) (top : h'.get? s.heap.objs.size = some { cls := .type "tuple", data := .seq us.toArray }) :
    Inv X pins σ (upd H s.heap.objs.size (.tup row)) { s with heap := h', toks := tk } ∧ H s.heap.objs.size = none ∧ ∀ b ∈ ch, upd H s.heap.objs.size (.tup row) b = none := by
  refine ⟨I.turnedNew same own (Nat.le_refl _) ⟨short, us, r, _, top, rfl, _, rfl⟩, I.hok.fresh (Nat.le_refl _), fun b m => ?_⟩
  obtain ⟨o, at_b, _⟩ := sit b m
  exact (upd_ne (Nat.ne_of_lt (Heap.lt_size at_b))).trans (own b m).1
/-- what lies above the heap's end is nobody's -/
theorem all_new {X : Cx} {pins : List (Addr × Obj)} {σ : L2.St} {H : Hp} {s : Shared} (I : Inv X pins σ H s) (ks : List Nat) : ∀ b ∈ ks.map (s.heap.objs.size + ·), FpOk X pins H b := fun b m => by
  obtain ⟨k, _, rfl⟩ := List.mem_map.mp m
  exact I.fpOk (Nat.le_add_right _ k) (I.hok.fresh (Nat.le_add_right _ k))
/-- a row's item of a source: its value, and where it stands -/
theorem src_item {X : Cx} {pins : List (Addr × Obj)} {σ : L2.St} {H : Hp} {s : Shared} {S : Src} {xs : List V} {i : Nat} {x : V} (I : Inv X pins σ H s) (h : SrcOk X.K H S xs) (e : xs[i]? = some x) :
    ∃ (its : Array Value) (u : Value), S.is s.heap its ∧ i < its.size ∧ (∀ y, its[i]? = some y → y = u) ∧ RelV x u ∧ ∀ ys, SrcOk X.K H S ys → ys[i]? = some x := by
  obtain ⟨its, rv, at_s, _⟩ := src_get I h
  obtain ⟨u, eu, ru⟩ := rv.get e
  refine ⟨its.toArray, u, at_s, ?_, fun y ey => ?_, ru, fun ys h2 => src_inj I h2 h ▸ e⟩
  · rw [List.size_toArray]; exact (List.getElem?_eq_some_iff.mp eu).1
  · rw [List.getElem?_toArray, eu] at ey; exact (Option.some.inj ey).symm
theorem src_all {X : Cx} {pins : List (Addr × Obj)} {σ : L2.St} {H : Hp} {s : Shared} {S : Src} {xs : List V} (I : Inv X pins σ H s) (h : SrcOk X.K H S xs) :
    ∃ its : Array Value, S.is s.heap its ∧ its.size = xs.length := by
  obtain ⟨its, rv, at_s, _⟩ := src_get I h
  exact ⟨its.toArray, at_s, by rw [List.size_toArray]; exact rv.length.symm⟩
/-- a built-in class is called by its name, on what the operands yield -/
theorem pi_class {X : Cx} {tg e : Expr} {es : List Expr} {ta : TA} {p pos : Pos} {x : Str} {T : String} {W : List V → Hp → (It → Hp → Prop) → Prop} (hg : Gl X x) (hm : X.mg x = none) (hb : bootBuiltins x = some (.type T)) (ha : PA X (e :: es) ta)
    (hs : starEach (e :: es) X.env = (false, eval e X.env) :: starEach es X.env) (hpl : (backTo pos (starEach es X.env)).any (·.1) = false) (hx : x ≠ "__name__") (hd : (x == ("__debug__" : Str)) = false)
    (k : ∀ (pins : List (Addr × Obj)) (s : Shared) (σ : L2.St) (H : Hp) (R : It → Hp → Prop) (vs : List V) (us : List Value), Inv X pins σ H s → Vals vs us → W vs H R →
      wpAny (model X.prog X.w) X.A (call (.type T) us) (fun v s1 => wpAny (model X.prog X.w) X.A (pyIter v) (PIE X pins σ tg R) X.xe s1) X.xe s) :
    PI X tg (.Call (.Name x p) (e :: es) [] pos) (fun σ H R => ta σ H fun vs H1 => W vs H1 R) where
  run pins s σ H R I h := Call_ (ld_blt I hg hm hb (PyProof.Rows.callWith_type1 (wpAny_mono (ha.run pos pins s σ H _ I h)
    (fun us _ ⟨vs, H1, I1, r, q⟩ => k pins _ σ H1 R vs us I1 r q) fun _ _ z => z) hs hpl) hx hd)

/-! ### zip of two -/
def Izp (K : PySem.W.Frag) (S T : Src) : It :=
  ⟨fun i H => ∃ xs ys x y, SrcOk K H S xs ∧ SrcOk K H T ys ∧ xs[i]? = some x ∧ ys[i]? = some y,
   fun i H v H' => ∃ (p : Addr) (x y : V), v = .ref p ∧ H p = none ∧ H' = upd H p (.tup [x, y]) ∧ (∀ xs, SrcOk K H S xs → xs[i]? = some x) ∧ ∀ ys, SrcOk K H T ys → ys[i]? = some y,
   fun i H => ∃ xs ys, SrcOk K H S xs ∧ SrcOk K H T ys ∧ i ≤ xs.length ∧ i ≤ ys.length ∧ (i = xs.length ∨ i = ys.length)⟩
theorem turn_zp {P : Program} {w : World} {K : PySem.W.Frag} {elts : List Expr} {kk : Nat} {tpos : Pos} {S T : Src} {z TI TO i1 i2 : Addr} (n1 : S.ad ≠ i1) (n2 : T.ad ≠ i2) (D : ZipSep2 z TI TO i1 i2 [i1, S.ad] [i2, T.ad]) :
    Turn P w K (.Tuple elts kk tpos) (Izp K S T) [z, TI, TO, i1, i2] z (fun i h => IsZip h z TI TO .none ∧ IsTupOf2 h TI (.ref i1) (.ref i2) ∧ (∃ a b, IsTupOf2 h TO a b) ∧ S.iter h i1 i ∧ T.iter h i2 i) := by
  have sit : ∀ {i : Nat} {h : Heap} {a b : Value}, IsZip h z TI TO .none → IsTupOf2 h TI (.ref i1) (.ref i2) → IsTupOf2 h TO a b → S.iter h i1 i → T.iter h i2 i → Sits [z, TI, TO, i1, i2] h :=
    fun hz hI hO h1 h2 => .put hz nofun (.put hI nofun (.put hO nofun (.src h1 (.src h2 .nil))))
  have out : ∀ {h h2 : Heap}, (∀ c o, c ≠ z → c ≠ TO → c ≠ i1 → c ≠ i2 → h.get? c = some o → h2.get? c = some o) → ∀ c o, c ∉ [z, TI, TO, i1, i2] → h.get? c = some o → h2.get? c = some o := fun k c o m => by
    simp only [List.mem_cons, List.not_mem_nil, or_false, not_or] at m
    exact k c o m.1 m.2.2.1 m.2.2.2.1 m.2.2.2.2
  refine ⟨List.mem_cons_self, fun i h ⟨hz, hI, ⟨_, _, hO⟩, h1, h2⟩ => sit hz hI hO h1 h2, ?_, ?_, ?_, fun _ _ _ _ _ st => wpAny_pyIter_zip st.1⟩
  · rintro i h h' ⟨hz, hI, ⟨a, b, hO⟩, h1, h2⟩ k
    exact ⟨k z (by simp) _ hz, k TI (by simp) _ hI, ⟨a, b, k TO (by simp) _ hO⟩, Src.iter_keep h1 (k i1 (by simp)), Src.iter_keep h2 (k i2 (by simp))⟩
  · rintro X rfl rfl rfl hc i pins s σ H E I own ⟨hz, hI, ⟨a, b, hO⟩, h1, h2⟩ ⟨xs, ys, x, y, ox, oy, ex, ey⟩
    obtain ⟨as, u1, at1, l1, val1, r1, same1⟩ := src_item I ox ex
    obtain ⟨bs, u2, at2, l2, val2, r2, same2⟩ := src_item I oy ey
    refine wpAny_pyNext_zipD2_item D (Src.draws (A := X.A.in1) (I.ok.hd hc) S i1 n1 as) (Src.draws (A := X.A.in1) (I.ok.hd hc) T i2 n2 bs) hz hI hO ⟨h1, at1⟩ ⟨h2, at2⟩ l1 l2 fun x1 x2 g tk e1 e2 gz gO g1 g2 top _ kept => ⟨_, rfl, ?_⟩
    cases val1 _ e1; cases val2 _ e2
    refine wpAny_letOwnedTupleGo_zip (s := { s with heap := g, toks := tk }) gz fun g' gz' but => ?_
    have old : z ≠ s.heap.objs.size := Nat.ne_of_lt (Heap.lt_size hz)
    obtain ⟨I', new, none'⟩ := row_laid (h' := g') (tk := tk) I own (sit hz hI hO h1 h2) (fun c o m q => (but.2 c fun e => m (e ▸ List.mem_cons_self)).trans (out kept c o m q))
      (row := [x, y]) (show 2 ≤ sizeLine by decide) (.cons r1 (.cons r2 .nil)) ((but.2 _ old.symm).trans top)
    exact ⟨.ref s.heap.objs.size, _, I', rfl, ⟨_, x, y, rfl, new, rfl, same1, same2⟩,
      ⟨gz', (but.2 _ D.TIz).trans (kept _ _ D.TIz D.TITO D.TIi1 D.TIi2 hI), ⟨_, _, (but.2 _ D.TOz).trans gO⟩,
        Src.iter_keep g1.1 fun o q => (but.2 _ fun e => D.zf1 (by simp [e])).trans q, Src.iter_keep g2.1 fun o q => (but.2 _ fun e => D.zf2 (by simp [e])).trans q⟩, none'⟩
  · rintro X rfl rfl rfl hc i pins s σ H E I own ⟨hz, hI, ⟨a, b, hO⟩, h1, h2⟩ ⟨xs, ys, ox, oy, lx, ly, fin⟩
    obtain ⟨as, at1, s1⟩ := src_all I ox
    obtain ⟨bs, at2, s2⟩ := src_all I oy
    refine wpAny_pyNext_zipD2_end D (Src.draws (A := X.A.in1) (I.ok.hd hc) S i1 n1 as) (Src.draws (A := X.A.in1) (I.ok.hd hc) T i2 n2 bs) hz hI hO ⟨h1, at1⟩ ⟨h2, at2⟩ (s1 ▸ lx) (s2 ▸ ly) (by rw [s1, s2]; exact fin) fun g tk kept => ?_
    exact ⟨rfl, I.turnedL (out kept) own⟩
def iZp (K : PySem.W.Frag) (ta : TA) : TI := fun σ H R => ta σ H fun vs H1 => ∃ S T xs ys, vs = [.ref S.ad, .ref T.ad] ∧ SrcOk K H1 S xs ∧ SrcOk K H1 T ys ∧ (xs.length ≤ sizeLine → ys.length ≤ sizeLine → R (Izp K S T) H1)
theorem pi_zp {X : Cx} {e e2 : Expr} {ta : TA} {p pos tpos : Pos} {elts : List Expr} {kk : Nat} (hg : Gl X "zip") (hm : X.mg "zip" = none) (ha : PA X [e, e2] ta)
    (hs : starEach [e, e2] X.env = (false, eval e X.env) :: starEach [e2] X.env := by rfl) (hpl : (backTo pos (starEach [e2] X.env)).any (·.1) = false := by rfl) :
    PI X (.Tuple elts kk tpos) (.Call (.Name "zip" p) [e, e2] [] pos) (iZp X.K ta) :=
  pi_class hg hm PyProof.Rows.boot_zip ha hs hpl (by decide) (by decide) fun pins s σ H R vs us I r ⟨S, T, xs, ys, ev, ox, oy, q⟩ => by
    subst ev
    obtain _ | ⟨rfl, _ | ⟨rfl, _ | _⟩⟩ := r
    obtain ⟨as, at1, s1⟩ := src_all I ox
    obtain ⟨bs, at2, s2⟩ := src_all I oy
    have b1 := Src.lt at1
    have b2 := Src.lt at2
    obtain ⟨_, _, _, z1⟩ := src_get I ox
    obtain ⟨_, _, _, z2⟩ := src_get I oy
    refine zip_begins2 (Src.begins S as) (Src.begins T bs) at1 at2 fun h' hz hI hO h1 h2 _ kept => wpAny_pyIter_zip hz ?_
    exact ⟨_, _, _, _, H, rfl, I.kept (t' := s.toks) kept, turn_zp (Nat.ne_of_lt b1) (Nat.ne_of_lt (Nat.lt_succ_of_lt b2)) (zip_sep2 (by simpa using b1) (by simpa using b2)),
      ⟨hz, hI, ⟨_, _, hO⟩, Src.iter_of h1, Src.iter_of h2⟩, all_new I [4, 2, 3, 0, 1], q z1 z2⟩

/-! ### zip of three -/
def Izq (K : PySem.W.Frag) (S T U : Src) : It :=
  ⟨fun i H => ∃ xs ys zs x y z, SrcOk K H S xs ∧ SrcOk K H T ys ∧ SrcOk K H U zs ∧ xs[i]? = some x ∧ ys[i]? = some y ∧ zs[i]? = some z,
   fun i H v H' => ∃ (p : Addr) (x y z : V), v = .ref p ∧ H p = none ∧ H' = upd H p (.tup [x, y, z]) ∧ (∀ xs, SrcOk K H S xs → xs[i]? = some x) ∧ (∀ ys, SrcOk K H T ys → ys[i]? = some y) ∧ ∀ zs, SrcOk K H U zs → zs[i]? = some z,
   fun i H => ∃ xs ys zs, SrcOk K H S xs ∧ SrcOk K H T ys ∧ SrcOk K H U zs ∧ i ≤ xs.length ∧ i ≤ ys.length ∧ i ≤ zs.length ∧ (i = xs.length ∨ i = ys.length ∨ i = zs.length)⟩
theorem turn_zq {P : Program} {w : World} {K : PySem.W.Frag} {elts : List Expr} {kk : Nat} {tpos : Pos} {S T U : Src} {z TI TO i1 i2 i3 : Addr} (n1 : S.ad ≠ i1) (n2 : T.ad ≠ i2) (n3 : U.ad ≠ i3) (D : ZipSep3 z TI TO i1 i2 i3 [i1, S.ad] [i2, T.ad] [i3, U.ad]) :
    Turn P w K (.Tuple elts kk tpos) (Izq K S T U) [z, TI, TO, i1, i2, i3] z (fun i h => IsZip h z TI TO .none ∧ IsTupOf3 h TI (.ref i1) (.ref i2) (.ref i3) ∧ (∃ a b c, IsTupOf3 h TO a b c) ∧ S.iter h i1 i ∧ T.iter h i2 i ∧ U.iter h i3 i) := by
  have sit : ∀ {i : Nat} {h : Heap} {a b c : Value}, IsZip h z TI TO .none → IsTupOf3 h TI (.ref i1) (.ref i2) (.ref i3) → IsTupOf3 h TO a b c → S.iter h i1 i → T.iter h i2 i → U.iter h i3 i → Sits [z, TI, TO, i1, i2, i3] h :=
    fun hz hI hO h1 h2 h3 => .put hz nofun (.put hI nofun (.put hO nofun (.src h1 (.src h2 (.src h3 .nil)))))
  have out : ∀ {h h2 : Heap}, (∀ c o, c ≠ z → c ≠ TO → c ≠ i1 → c ≠ i2 → c ≠ i3 → h.get? c = some o → h2.get? c = some o) → ∀ c o, c ∉ [z, TI, TO, i1, i2, i3] → h.get? c = some o → h2.get? c = some o := fun k c o m => by
    simp only [List.mem_cons, List.not_mem_nil, or_false, not_or] at m
    exact k c o m.1 m.2.2.1 m.2.2.2.1 m.2.2.2.2.1 m.2.2.2.2.2
  refine ⟨List.mem_cons_self, fun i h ⟨hz, hI, ⟨_, _, _, hO⟩, h1, h2, h3⟩ => sit hz hI hO h1 h2 h3, ?_, ?_, ?_, fun _ _ _ _ _ st => wpAny_pyIter_zip st.1⟩
  · rintro i h h' ⟨hz, hI, ⟨a, b, c, hO⟩, h1, h2, h3⟩ k
    exact ⟨k z (by simp) _ hz, k TI (by simp) _ hI, ⟨a, b, c, k TO (by simp) _ hO⟩, Src.iter_keep h1 (k i1 (by simp)), Src.iter_keep h2 (k i2 (by simp)), Src.iter_keep h3 (k i3 (by simp))⟩
  · rintro X rfl rfl rfl hc i pins s σ H E I own ⟨hz, hI, ⟨a, b, c, hO⟩, h1, h2, h3⟩ ⟨xs, ys, zs, x, y, v, ox, oy, oz, ex, ey, ez⟩
    obtain ⟨as, u1, at1, l1, val1, r1, same1⟩ := src_item I ox ex
    obtain ⟨bs, u2, at2, l2, val2, r2, same2⟩ := src_item I oy ey
    obtain ⟨cs, u3, at3, l3, val3, r3, same3⟩ := src_item I oz ez
    refine wpAny_pyNext_zipD3_item D (Src.draws (A := X.A.in1) (I.ok.hd hc) S i1 n1 as) (Src.draws (A := X.A.in1) (I.ok.hd hc) T i2 n2 bs) (Src.draws (A := X.A.in1) (I.ok.hd hc) U i3 n3 cs) hz hI hO ⟨h1, at1⟩ ⟨h2, at2⟩ ⟨h3, at3⟩ l1 l2 l3 fun x1 x2 x3 g tk e1 e2 e3 gz gO g1 g2 g3 top _ kept => ⟨_, rfl, ?_⟩
    cases val1 _ e1; cases val2 _ e2; cases val3 _ e3
    refine wpAny_letOwnedTupleGo_zip (s := { s with heap := g, toks := tk }) gz fun g' gz' but => ?_
    have old : z ≠ s.heap.objs.size := Nat.ne_of_lt (Heap.lt_size hz)
    obtain ⟨I', new, none'⟩ := row_laid (h' := g') (tk := tk) I own (sit hz hI hO h1 h2 h3) (fun c o m q => (but.2 c fun e => m (e ▸ List.mem_cons_self)).trans (out kept c o m q))
      (row := [x, y, v]) (show 3 ≤ sizeLine by decide) (.cons r1 (.cons r2 (.cons r3 .nil))) ((but.2 _ old.symm).trans top)
    exact ⟨.ref s.heap.objs.size, _, I', rfl, ⟨_, x, y, v, rfl, new, rfl, same1, same2, same3⟩,
      ⟨gz', (but.2 _ D.TIz).trans (kept _ _ D.TIz D.TITO D.TIi1 D.TIi2 D.TIi3 hI), ⟨_, _, _, (but.2 _ D.TOz).trans gO⟩,
        Src.iter_keep g1.1 fun o q => (but.2 _ fun e => D.zf1 (by simp [e])).trans q, Src.iter_keep g2.1 fun o q => (but.2 _ fun e => D.zf2 (by simp [e])).trans q, Src.iter_keep g3.1 fun o q => (but.2 _ fun e => D.zf3 (by simp [e])).trans q⟩, none'⟩
  · rintro X rfl rfl rfl hc i pins s σ H E I own ⟨hz, hI, ⟨a, b, c, hO⟩, h1, h2, h3⟩ ⟨xs, ys, zs, ox, oy, oz, lx, ly, lz, fin⟩
    obtain ⟨as, at1, s1⟩ := src_all I ox
    obtain ⟨bs, at2, s2⟩ := src_all I oy
    obtain ⟨cs, at3, s3⟩ := src_all I oz
    refine wpAny_pyNext_zipD3_end D (Src.draws (A := X.A.in1) (I.ok.hd hc) S i1 n1 as) (Src.draws (A := X.A.in1) (I.ok.hd hc) T i2 n2 bs) (Src.draws (A := X.A.in1) (I.ok.hd hc) U i3 n3 cs) hz hI hO ⟨h1, at1⟩ ⟨h2, at2⟩ ⟨h3, at3⟩ (s1 ▸ lx) (s2 ▸ ly) (s3 ▸ lz) (by rw [s1, s2, s3]; exact fin) fun g tk kept => ?_
    exact ⟨rfl, I.turnedL (out kept) own⟩
def iZq (K : PySem.W.Frag) (ta : TA) : TI := fun σ H R => ta σ H fun vs H1 => ∃ S T U xs ys zs, vs = [.ref S.ad, .ref T.ad, .ref U.ad] ∧ SrcOk K H1 S xs ∧ SrcOk K H1 T ys ∧ SrcOk K H1 U zs ∧ (xs.length ≤ sizeLine → ys.length ≤ sizeLine → zs.length ≤ sizeLine → R (Izq K S T U) H1)
theorem pi_zq {X : Cx} {e e2 e3 : Expr} {ta : TA} {p pos tpos : Pos} {elts : List Expr} {kk : Nat} (hg : Gl X "zip") (hm : X.mg "zip" = none) (ha : PA X [e, e2, e3] ta)
    (hs : starEach [e, e2, e3] X.env = (false, eval e X.env) :: starEach [e2, e3] X.env := by rfl) (hpl : (backTo pos (starEach [e2, e3] X.env)).any (·.1) = false := by rfl) :
    PI X (.Tuple elts kk tpos) (.Call (.Name "zip" p) [e, e2, e3] [] pos) (iZq X.K ta) :=
  pi_class hg hm PyProof.Rows.boot_zip ha hs hpl (by decide) (by decide) fun pins s σ H R vs us I r ⟨S, T, U, xs, ys, zs, ev, ox, oy, oz, q⟩ => by
    subst ev
    obtain _ | ⟨rfl, _ | ⟨rfl, _ | ⟨rfl, _ | _⟩⟩⟩ := r
    obtain ⟨as, at1, s1⟩ := src_all I ox
    obtain ⟨bs, at2, s2⟩ := src_all I oy
    obtain ⟨cs, at3, s3⟩ := src_all I oz
    have b1 := Src.lt at1
    have b2 := Src.lt at2
    have b3 := Src.lt at3
    obtain ⟨_, _, _, z1⟩ := src_get I ox
    obtain ⟨_, _, _, z2⟩ := src_get I oy
    obtain ⟨_, _, _, z3⟩ := src_get I oz
    refine zip_begins3 (Src.begins S as) (Src.begins T bs) (Src.begins U cs) at1 at2 at3 fun h' hz hI hO h1 h2 h3 _ kept => wpAny_pyIter_zip hz ?_
    exact ⟨_, _, _, _, H, rfl, I.kept (t' := s.toks) kept, turn_zq (Nat.ne_of_lt b1) (Nat.ne_of_lt (Nat.lt_succ_of_lt b2)) (Nat.ne_of_lt (Nat.lt_succ_of_lt (Nat.lt_succ_of_lt b3))) (zip_sep3 (by simpa using b1) (by simpa using b2) (by simpa using b3)),
      ⟨hz, hI, ⟨_, _, _, hO⟩, Src.iter_of h1, Src.iter_of h2, Src.iter_of h3⟩, all_new I [5, 3, 4, 0, 1, 2], q z1 z2 z3⟩

/-! ### enumerate -/
def Ien (K : PySem.W.Frag) (S : Src) : It :=
  ⟨fun i H => ∃ xs x, SrcOk K H S xs ∧ xs[i]? = some x,
   fun i H v H' => ∃ (p : Addr) (x : V), v = .ref p ∧ H p = none ∧ H' = upd H p (.tup [.int (i : Nat), x]) ∧ ∀ xs, SrcOk K H S xs → xs[i]? = some x,
   fun i H => ∃ xs, SrcOk K H S xs ∧ i = xs.length⟩
theorem turn_en {P : Program} {w : World} {K : PySem.W.Frag} {elts : List Expr} {kk : Nat} {tpos : Pos} {S : Src} {e it : Addr} (n1 : S.ad ≠ it) (n2 : e ≠ it) (n3 : e ≠ S.ad) :
    Turn P w K (.Tuple elts kk tpos) (Ien K S) [e, it] e (fun i h => (∃ old, IsEnum h e it ((i : Nat) : Int) old) ∧ S.iter h it i) := by
  have sit : ∀ {i : Nat} {h : Heap} {c : Int} {old : Value}, IsEnum h e it c old → S.iter h it i → Sits [e, it] h := fun he h1 => .put he nofun (.src h1 .nil)
  refine ⟨List.mem_cons_self, fun i h ⟨⟨_, he⟩, h1⟩ => sit he h1, ?_, ?_, ?_, fun _ _ _ _ _ ⟨⟨_, he⟩, _⟩ => wpAny_pyIter_enum he⟩
  · rintro i h h' ⟨⟨old, he⟩, h1⟩ k
    exact ⟨⟨old, k e (by simp) _ he⟩, Src.iter_keep h1 (k it (by simp))⟩
  · rintro X rfl rfl rfl hc i pins s σ H E I own ⟨⟨old, he⟩, h1⟩ ⟨xs, x, ox, ex⟩
    obtain ⟨as, u1, at1, l1, val1, r1, same1⟩ := src_item I ox ex
    refine wpAny_pyNext_enum_itemD (Src.draws (A := X.A.in1) (I.ok.hd hc) S it n1 as) he ⟨h1, at1⟩ l1 n2 (by simp [n2, n3]) fun y g tk ey go g1 top _ kept => ⟨_, rfl, ?_⟩
    cases val1 _ ey
    refine wpAny_letOwnedTupleGo_enum (s := { s with heap := g, toks := tk + 1 }) go fun g' ge' but => ?_
    have old' : e ≠ s.heap.objs.size := Nat.ne_of_lt (Heap.lt_size he)
    obtain ⟨I', new, none'⟩ := row_laid (h' := g') (tk := tk + 1) (row := [.int (i : Nat), x]) I own (sit he h1)
      (fun c o m q => by
        simp only [List.mem_cons, List.not_mem_nil, or_false, not_or] at m
        exact (but.2 c m.1).trans (kept c o m.1 m.2 q))
      (show 2 ≤ sizeLine by decide) (.cons ⟨tk, rfl⟩ (.cons r1 .nil)) ((but.2 _ old'.symm).trans top)
    exact ⟨.ref s.heap.objs.size, _, I', rfl, ⟨_, x, rfl, new, rfl, same1⟩, ⟨⟨_, by rw [Int.natCast_succ]; exact ge'⟩, Src.iter_keep g1.1 fun o q => (but.2 it n2.symm).trans q⟩, none'⟩
  · rintro X rfl rfl rfl hc i pins s σ H E I own ⟨⟨old, he⟩, h1⟩ ⟨xs, ox, rfl⟩
    obtain ⟨as, at1, s1⟩ := src_all I ox
    rw [← s1] at h1
    refine wpAny_pyNext_enum_endD (Src.draws (A := X.A.in1) (I.ok.hd hc) S it n1 as) he ⟨h1, at1⟩ fun g kept => ⟨rfl, ?_⟩
    exact I.turnedL (t' := s.toks) (fun c o m => kept c o fun z => m (z ▸ List.mem_cons_of_mem _ List.mem_cons_self)) own
/-- enumerate of one thing: the class's own make, from any thing that can be walked along -/
theorem enum_made {v : Value} {o : Obj} {Q : Heap → Prop} (B : Begins v o Q) :
    Meets (Builtin.«enumerate.__new__» ⟨[.type "enumerate", v], []⟩) (fun _ R s => Q s.heap ∧
      R (.ok (.ret (.ref (s.heap.push o).objs.size))) { s with heap := (s.heap.push o).push { cls := .type "enumerate", data := .fields #[.none, .bool false, .ref s.heap.objs.size, rawInt 0, .none, .none] } }) := by
  refine .of_wp fun prog w A R => ?_
  rintro ⟨hp, gs, dr, tk, os⟩ ⟨at_v, h⟩
  have begun {A' : Around} {E G : Value → Shared → Prop} : G (.ref hp.objs.size) ⟨hp.push o, gs, dr, tk, os⟩ → wpAny (model prog w) A' (pyIter v) G E ⟨hp, gs, dr, tk, os⟩ := B.iter prog w _ _ ⟨hp, gs, dr, tk, os⟩ _ at_v
  have sub := sub_enumerate
  wp_walk using begun
  refine wpAny_stack_any fun _ => wpAny_pure ?_
  split
  next c _ _ _ _ _ => cases (c == Value.type "enumerate") <;> (wp_walk using begun; exact ⟨_, rfl, h⟩)
  next => wp_walk using begun; exact ⟨_, rfl, h⟩
theorem enum_starts {prog : Program} {w : World} {A : Around} {E : Value → Shared → Prop} {s : Shared} {v : Value} {o : Obj} {P : Heap → Prop} {Q : Value → Shared → Prop} (B : Begins v o P) (at_v : P s.heap)
    (k : ∀ h', IsEnum h' (s.heap.objs.size + 1) s.heap.objs.size 0 .none → h'.get? s.heap.objs.size = some o → (∀ b u, s.heap.get? b = some u → h'.get? b = some u) → Q (.ref (s.heap.objs.size + 1)) { s with heap := h' }) :
    wpAny (model prog w) A (call (.type "enumerate") [v]) Q E s := by
  refine callType_new F.called_enumerate (by decide) (F.typeCall_enumerate_1 _) (F.newCall_enumerate_1 _) (F.args_object_init_2 · _) F.entry_enumerate_new (enum_made B) ⟨at_v, ?_⟩
  have up : (s.heap.push o).objs.size = s.heap.objs.size + 1 := Heap.size_push _ _
  have at_e := Heap.get?_push_size (s.heap.push o) (o := { cls := .type "enumerate", data := .fields #[.none, .bool false, .ref s.heap.objs.size, rawInt 0, .none, .none] }) rfl
  rw [up] at at_e
  show _ ∧ _
  rw [up]
  exact ⟨⟨_, at_e, rfl⟩, k _ at_e (Heap.get?_push_of_some _ (Heap.get?_push_size _ B.free)) fun b u q => Heap.get?_push_of_some _ (Heap.get?_push_of_some _ q)⟩
def iEn (K : PySem.W.Frag) (ta : TA) : TI := fun σ H R => ta σ H fun vs H1 => ∃ S xs, vs = [.ref S.ad] ∧ SrcOk K H1 S xs ∧ (xs.length ≤ sizeLine → R (Ien K S) H1)
theorem pi_en {X : Cx} {e : Expr} {ta : TA} {p pos tpos : Pos} {elts : List Expr} {kk : Nat} (hg : Gl X "enumerate") (hm : X.mg "enumerate" = none) (ha : PA X [e] ta) (hs : starEach [e] X.env = [(false, eval e X.env)] := by rfl) :
    PI X (.Tuple elts kk tpos) (.Call (.Name "enumerate" p) [e] [] pos) (iEn X.K ta) :=
  pi_class hg hm boot_enumerate ha hs rfl (by decide) (by decide) fun pins s σ H R vs us I r ⟨S, xs, ev, ox, q⟩ => by
    subst ev
    obtain _ | ⟨rfl, _ | _⟩ := r
    obtain ⟨as, at1, _⟩ := src_all I ox
    obtain ⟨_, _, _, z1⟩ := src_get I ox
    have b1 := Src.lt at1
    exact enum_starts (Src.begins S as) at1 fun h' he h1 kept => wpAny_pyIter_enum he ⟨_, _, _, _, H, rfl, I.kept (t' := s.toks) kept,
      turn_en (Nat.ne_of_lt b1) (Nat.succ_ne_self _) (Nat.ne_of_gt (Nat.lt_succ_of_lt b1)), ⟨⟨_, he⟩, Src.iter_of h1⟩, all_new I [1, 0], q z1⟩

/-! ### .. over data -/
def seqOf : PyData → Option (List PyData)
  | .list xs => some xs
  | .tuple xs => some xs
  | _ => none
def triosD : List PyData → List PyData → List PyData → List PyData
  | x :: xs, y :: ys, z :: zs => .tuple [x, y, z] :: triosD xs ys zs
  | _, _, _ => []
def numbered : Nat → List PyData → List PyData
  | _, [] => []
  | n, x :: xs => .tuple [.int (n : Int), x] :: numbered (n + 1) xs
theorem pairsD_len : ∀ xs ys, (pairsD xs ys).length = min xs.length ys.length
  | [], _ => by simp [pairsD]
  | _ :: _, [] => by simp [pairsD]
  | x :: xs, y :: ys => by simp [pairsD, pairsD_len xs ys, Nat.succ_min_succ]
theorem triosD_len : ∀ xs ys zs, (triosD xs ys zs).length = min (min xs.length ys.length) zs.length
  | [], _, _ => by simp [triosD]
  | _ :: _, [], _ => by simp [triosD]
  | _ :: _, _ :: _, [] => by simp [triosD]
  | x :: xs, y :: ys, z :: zs => by simp only [triosD, List.length_cons, triosD_len xs ys zs]; omega
theorem numbered_len : ∀ n xs, (numbered n xs).length = xs.length
  | _, [] => rfl
  | n, x :: xs => by simp [numbered, numbered_len (n + 1) xs]
theorem pairsD_get : ∀ (xs ys : List PyData) (i : Nat), (pairsD xs ys)[i]? = match xs[i]?, ys[i]? with
    | some x, some y => some (.tuple [x, y])
    | _, _ => none
  | [], _, i => by simp [pairsD]
  | _ :: _, [], i => by simp only [pairsD, List.getElem?_nil]; split <;> simp_all
  | x :: xs, y :: ys, 0 => by simp [pairsD]
  | x :: xs, y :: ys, i + 1 => by simpa [pairsD] using pairsD_get xs ys i
theorem triosD_get : ∀ (xs ys zs : List PyData) (i : Nat), (triosD xs ys zs)[i]? = match xs[i]?, ys[i]?, zs[i]? with
    | some x, some y, some z => some (.tuple [x, y, z])
    | _, _, _ => none
  | [], _, _, i => by simp [triosD]
  | _ :: _, [], _, i => by simp only [triosD, List.getElem?_nil]; split <;> simp_all
  | _ :: _, _ :: _, [], i => by simp only [triosD, List.getElem?_nil]; split <;> simp_all
  | x :: xs, y :: ys, z :: zs, 0 => by simp [triosD]
  | x :: xs, y :: ys, z :: zs, i + 1 => by simpa [triosD] using triosD_get xs ys zs i
theorem numbered_get : ∀ (n : Nat) (xs : List PyData) (i : Nat), (numbered n xs)[i]? = (xs[i]?).map fun x => .tuple [.int ((n + i : Nat) : Int), x]
  | _, [], i => by simp [numbered]
  | n, x :: xs, 0 => by simp [numbered]
  | n, x :: xs, i + 1 => by
    simp only [numbered, List.getElem?_cons_succ, numbered_get (n + 1) xs i]
    rw [show n + 1 + i = n + (i + 1) by omega]
theorem dn_src {K : PySem.W.Frag} {G : Hp} {v : V} {d : PyData} {xs : List PyData} (dn : Dn K G v d) (h : seqOf d = some xs) : ∃ S vs, v = .ref (Src.ad S) ∧ DnL K G vs xs ∧ ∀ G2 H, Same G G2 → Same G2 H → SrcOk K H S vs := by
  cases dn with
  | lst hs t => cases h; exact ⟨.l _, _, rfl, t, fun G2 H s1 s2 => SqL.of (s2 _ _ (s1 _ _ hs))⟩
  | tup hs t => cases h; exact ⟨.t _, _, rfl, t, fun G2 H s1 s2 => sqT_mono s2 (sqT_mono s1 (SqT.of hs))⟩
  | _ => cases h
theorem pair_new {K : PySem.W.Frag} {B G H : Hp} {δ : DS} {σ : L2.St} {p : Addr} {xs : List V} {ds : List PyData} (rel : Rel K B G δ σ H) (np : H p = none) (t : DnL K G xs ds) : ∃ G3, Same G G3 ∧ Rel K B G3 δ σ (upd H p (.tup xs)) ∧ Dn K G3 (.ref p) (.tuple ds) := by
  obtain ⟨rel3, s3⟩ := rel.laid (o := .tup xs) np
  exact ⟨_, s3, rel3, Dn.tup upd_same (t.mono s3)⟩
theorem walk_zp {K : PySem.W.Frag} {G : Hp} {S T : Src} {vs us : List V} {xs ys : List PyData} (h1 : ∀ G2 H, Same G G2 → Same G2 H → SrcOk K H S vs) (h2 : ∀ G2 H, Same G G2 → Same G2 H → SrcOk K H T us) (t1 : DnL K G vs xs) (t2 : DnL K G us ys) : WalkD K (Izp K S T) G (pairsD xs ys) := fun B G2 δ σ H s rel => by
  have q1 := h1 G2 H s rel.sg
  have q2 := h2 G2 H s rel.sg
  have l1 := t1.len
  have l2 := t2.len
  rw [pairsD_len]
  refine ⟨fun i hi => ⟨vs, us, vs[i]'(by omega), us[i]'(by omega), q1, q2, List.getElem?_eq_getElem (by omega), List.getElem?_eq_getElem (by omega)⟩, ⟨vs, us, q1, q2, by omega, by omega, by omega⟩, fun i x d H' hd y => ?_⟩
  obtain ⟨p, x, y, rfl, np, rfl, y1, y2⟩ := y
  rw [pairsD_get] at hd
  cases e1 : xs[i]? with
  | none => rw [e1] at hd; simp at hd
  | some d1 =>
    cases e2 : ys[i]? with
    | none => rw [e1, e2] at hd; simp at hd
    | some d2 =>
      rw [e1, e2] at hd
      cases hd
      obtain ⟨v, hv, dv⟩ := t1.get e1
      obtain ⟨u, hu, du⟩ := t2.get e2
      rw [y1 vs q1] at hv; cases hv
      rw [y2 us q2] at hu; cases hu
      exact pair_new rel np (.cons (dv.mono s) (.cons (du.mono s) .nil))
theorem walk_zq {K : PySem.W.Frag} {G : Hp} {S T U : Src} {vs us ws : List V} {xs ys zs : List PyData} (h1 : ∀ G2 H, Same G G2 → Same G2 H → SrcOk K H S vs) (h2 : ∀ G2 H, Same G G2 → Same G2 H → SrcOk K H T us) (h3 : ∀ G2 H, Same G G2 → Same G2 H → SrcOk K H U ws) (t1 : DnL K G vs xs) (t2 : DnL K G us ys) (t3 : DnL K G ws zs) : WalkD K (Izq K S T U) G (triosD xs ys zs) := fun B G2 δ σ H s rel => by
  have q1 := h1 G2 H s rel.sg
  have q2 := h2 G2 H s rel.sg
  have q3 := h3 G2 H s rel.sg
  have l1 := t1.len
  have l2 := t2.len
  have l3 := t3.len
  rw [triosD_len]
  refine ⟨fun i hi => ⟨vs, us, ws, vs[i]'(by omega), us[i]'(by omega), ws[i]'(by omega), q1, q2, q3, List.getElem?_eq_getElem (by omega), List.getElem?_eq_getElem (by omega), List.getElem?_eq_getElem (by omega)⟩, ⟨vs, us, ws, q1, q2, q3, by omega, by omega, by omega, by omega⟩, fun i x d H' hd y => ?_⟩
  obtain ⟨p, x, y, z, rfl, np, rfl, y1, y2, y3⟩ := y
  rw [triosD_get] at hd
  cases e1 : xs[i]? with
  | none => rw [e1] at hd; simp at hd
  | some d1 =>
    cases e2 : ys[i]? with
    | none => rw [e1, e2] at hd; simp at hd
    | some d2 =>
      cases e3 : zs[i]? with
      | none => rw [e1, e2, e3] at hd; simp at hd
      | some d3 =>
        rw [e1, e2, e3] at hd
        cases hd
        obtain ⟨v, hv, dv⟩ := t1.get e1
        obtain ⟨u, hu, du⟩ := t2.get e2
        obtain ⟨w, hw, dw⟩ := t3.get e3
        rw [y1 vs q1] at hv; cases hv
        rw [y2 us q2] at hu; cases hu
        rw [y3 ws q3] at hw; cases hw
        exact pair_new rel np (.cons (dv.mono s) (.cons (du.mono s) (.cons (dw.mono s) .nil)))
theorem walk_en {K : PySem.W.Frag} {G : Hp} {S : Src} {vs : List V} {xs : List PyData} (h1 : ∀ G2 H, Same G G2 → Same G2 H → SrcOk K H S vs) (t1 : DnL K G vs xs) : WalkD K (Ien K S) G (numbered 0 xs) := fun B G2 δ σ H s rel => by
  have q1 := h1 G2 H s rel.sg
  have l1 := t1.len
  rw [numbered_len]
  refine ⟨fun i hi => ⟨vs, vs[i]'(by omega), q1, List.getElem?_eq_getElem (by omega)⟩, ⟨vs, q1, by omega⟩, fun i x d H' hd y => ?_⟩
  obtain ⟨p, x, rfl, np, rfl, y1⟩ := y
  rw [numbered_get] at hd
  cases e1 : xs[i]? with
  | none => rw [e1] at hd; cases hd
  | some d1 =>
    rw [e1] at hd
    cases hd
    obtain ⟨v, hv, dv⟩ := t1.get e1
    rw [y1 vs q1] at hv; cases hv
    refine pair_new rel np (.cons ?_ (.cons (dv.mono s) .nil))
    rw [Nat.zero_add]; exact Dn.int _
def iZip2 (w : DA) : DL := fun δ R => w δ fun os δ1 => lkL os δ1 fun ds δ2 => match ds with
  | [a, b] => ∃ xs ys, seqOf a = some xs ∧ seqOf b = some ys ∧ R (pairsD xs ys) δ2
  | _ => False
def iZip3 (w : DA) : DL := fun δ R => w δ fun os δ1 => lkL os δ1 fun ds δ2 => match ds with
  | [a, b, c] => ∃ xs ys zs, seqOf a = some xs ∧ seqOf b = some ys ∧ seqOf c = some zs ∧ R (triosD xs ys zs) δ2
  | _ => False
def iEnumD (w : DA) : DL := fun δ R => w δ fun os δ1 => lkL os δ1 fun ds δ2 => match ds with
  | [a] => ∃ xs, seqOf a = some xs ∧ R (numbered 0 xs) δ2
  | _ => False
theorem DnL.one {K : PySem.W.Frag} {G : Hp} {vs : List V} {d : PyData} (h : DnL K G vs [d]) : ∃ v, vs = [v] ∧ Dn K G v d := by
  cases h with | cons a b => cases b; exact ⟨_, rfl, a⟩
theorem DnL.two {K : PySem.W.Frag} {G : Hp} {vs : List V} {d e : PyData} (h : DnL K G vs [d, e]) : ∃ v u, vs = [v, u] ∧ Dn K G v d ∧ Dn K G u e := by
  cases h with | cons a b => obtain ⟨u, rfl, c⟩ := b.one; exact ⟨_, _, rfl, a, c⟩
theorem DnL.three {K : PySem.W.Frag} {G : Hp} {vs : List V} {d e f : PyData} (h : DnL K G vs [d, e, f]) : ∃ v u w, vs = [v, u, w] ∧ Dn K G v d ∧ Dn K G u e ∧ Dn K G w f := by
  cases h with | cons a b => obtain ⟨u, w, rfl, c⟩ := b.two; exact ⟨_, _, _, rfl, a, c⟩
section
variable {X : Cx} {pos tpos : Pos} {elts : List Expr} {kk : Nat} {p : Pos}
theorem ji_zip2 {e e2 : Expr} {w : DA} (hg : Gl X "zip") (hm : X.mg "zip" = none) (ha : JA X [e, e2] w)
    (hs : starEach [e, e2] X.env = (false, eval e X.env) :: starEach [e2] X.env := by rfl) (hpl : (backTo pos (starEach [e2] X.env)).any (·.1) = false := by rfl) : JI X (.Tuple elts kk tpos) (.Call (.Name "zip" p) [e, e2] [] pos) (iZip2 w) :=
  pi_le (pi_zp hg hm ha hs hpl) fun pins s σ H R I ⟨B, G, δ, R', rel, hw, k⟩ => ⟨B, G, δ, _, rel, hw, fun vs H1 G1 os δ1 r1 s1 rel1 ok1 => by
    obtain ⟨G2, δ2, ds, q, s2, rel2, t⟩ := lkL_ok rel1 ok1 r1
    match ds, q with
    | [a, b], ⟨xs, ys, ea, eb, q⟩ =>
      obtain ⟨v, u, rfl, da, db⟩ := t.two
      obtain ⟨S, ws, rfl, t1, k1⟩ := dn_src da ea
      obtain ⟨T, us, rfl, t2, k2⟩ := dn_src db eb
      refine ⟨S, T, ws, us, rfl, k1 _ _ (Same.refl _) rel2.sg, k2 _ _ (Same.refl _) rel2.sg, fun z1 z2 => k _ H1 G2 _ δ2 q (s1.trans s2) rel2 (walk_zp k1 k2 t1 t2) ?_⟩
      rw [pairsD_len, ← t1.len, ← t2.len]; omega⟩
theorem ji_zip3 {e e2 e3 : Expr} {w : DA} (hg : Gl X "zip") (hm : X.mg "zip" = none) (ha : JA X [e, e2, e3] w)
    (hs : starEach [e, e2, e3] X.env = (false, eval e X.env) :: starEach [e2, e3] X.env := by rfl) (hpl : (backTo pos (starEach [e2, e3] X.env)).any (·.1) = false := by rfl) : JI X (.Tuple elts kk tpos) (.Call (.Name "zip" p) [e, e2, e3] [] pos) (iZip3 w) :=
  pi_le (pi_zq hg hm ha hs hpl) fun pins s σ H R I ⟨B, G, δ, R', rel, hw, k⟩ => ⟨B, G, δ, _, rel, hw, fun vs H1 G1 os δ1 r1 s1 rel1 ok1 => by
    obtain ⟨G2, δ2, ds, q, s2, rel2, t⟩ := lkL_ok rel1 ok1 r1
    match ds, q with
    | [a, b, c], ⟨xs, ys, zs, ea, eb, ec, q⟩ =>
      obtain ⟨v, u, w, rfl, da, db, dc⟩ := t.three
      obtain ⟨S, ws, rfl, t1, k1⟩ := dn_src da ea
      obtain ⟨T, us, rfl, t2, k2⟩ := dn_src db eb
      obtain ⟨U, us3, rfl, t3, k3⟩ := dn_src dc ec
      refine ⟨S, T, U, ws, us, us3, rfl, k1 _ _ (Same.refl _) rel2.sg, k2 _ _ (Same.refl _) rel2.sg, k3 _ _ (Same.refl _) rel2.sg, fun z1 z2 z3 => k _ H1 G2 _ δ2 q (s1.trans s2) rel2 (walk_zq k1 k2 k3 t1 t2 t3) ?_⟩
      rw [triosD_len, ← t1.len, ← t2.len, ← t3.len]; omega⟩
theorem ji_enum {e : Expr} {w : DA} (hg : Gl X "enumerate") (hm : X.mg "enumerate" = none) (ha : JA X [e] w) (hs : starEach [e] X.env = [(false, eval e X.env)] := by rfl) : JI X (.Tuple elts kk tpos) (.Call (.Name "enumerate" p) [e] [] pos) (iEnumD w) :=
  pi_le (pi_en hg hm ha hs) fun pins s σ H R I ⟨B, G, δ, R', rel, hw, k⟩ => ⟨B, G, δ, _, rel, hw, fun vs H1 G1 os δ1 r1 s1 rel1 ok1 => by
    obtain ⟨G2, δ2, ds, q, s2, rel2, t⟩ := lkL_ok rel1 ok1 r1
    match ds, q with
    | [a], ⟨xs, ea, q⟩ =>
      obtain ⟨v, rfl, da⟩ := t.one
      obtain ⟨S, ws, rfl, t1, k1⟩ := dn_src da ea
      refine ⟨S, ws, rfl, k1 _ _ (Same.refl _) rel2.sg, fun z1 => k _ H1 G2 _ δ2 q (s1.trans s2) rel2 (walk_en k1 t1) ?_⟩
      rw [numbered_len, ← t1.len]; exact z1⟩
end
end DL
set_option Elab.async false
set_option linter.all false
set_option maxRecDepth 100000
set_option maxHeartbeats 4000000
universe u
namespace DL
open PySem PySem.Spec PyProof.Rows L2
variable [Tb]

/-! ### what each transformer says, applied -/
/-- what simp does not look into -/
inductive Stop {α : Sort u} (R : α) : Type where
  | mk
def comC (g : DTG) (t : DT) (e : DE) (vs : List Nat) (xs acc : List PyData) (δ : DS) (R : List PyData → DS → Prop) (_u : Stop R) : Prop := compIt g t e vs xs acc δ R
def forC (g : DTG) (b : DTS) (xs : List PyData) (δ : DS) (E : DEnds) (_u : Stop E) : Prop := forIt g b xs E δ
def whileC (c : DT) (b : DTS) (δ : DS) (E : DEnds) (_u : Stop E) : Prop := wWhile c b E δ
def ask (sp : DSp) (cs : List Cell) (R : PyData → List Cell → Prop) (_u : Stop R) : Prop := sp cs R
def onS {α : Type} (o : Option α) (k : α → Prop) (_u : Stop k) : Prop := match o with
  | some z => k z
  | none => False
omit [Tb] in
@[simp ↓] theorem onS_some {α : Type} (z : α) (k : α → Prop) (u : Stop k) : onS (some z) k u = k z := rfl
theorem ex_some {α : Type} (o : Option α) (k : α → Prop) : (∃ z, o = some z ∧ k z) = onS o k .mk := by
  cases o <;> simp [onS]
theorem onS_of {α : Type} {o : Option α} {z : α} {k : α → Prop} {u : Stop k} (h : o = some z) (q : k z) : onS o k u := by rw [h]; exact q
def onIs (ds : List PyData) (k : List Int → Prop) (_u : Stop k) : Prop := ∃ ns : List Int, ds = ns.map PyData.int ∧ k ns
def onBs (ds : List PyData) (k : List Bool → Prop) (_u : Stop k) : Prop := ∃ ns : List Bool, ds = ns.map PyData.bool ∧ k ns
theorem map_int_inj : ∀ {ns ms : List Int}, ns.map PyData.int = ms.map PyData.int → ns = ms
  | [], [], _ => rfl
  | [], _ :: _, h => by cases h
  | _ :: _, [], h => by cases h
  | n :: ns, m :: ms, h => by
    simp only [List.map_cons, List.cons.injEq] at h
    obtain ⟨h1, h2⟩ := h
    cases h1
    rw [map_int_inj h2]
theorem map_bool_inj : ∀ {ns ms : List Bool}, ns.map PyData.bool = ms.map PyData.bool → ns = ms
  | [], [], _ => rfl
  | [], _ :: _, h => by cases h
  | _ :: _, [], h => by cases h
  | n :: ns, m :: ms, h => by
    simp only [List.map_cons, List.cons.injEq] at h
    obtain ⟨h1, h2⟩ := h
    cases h1
    rw [map_bool_inj h2]
omit [Tb] in
@[simp ↓] theorem onIs_i (ns : List Int) (k : List Int → Prop) (u : Stop k) : onIs (ns.map PyData.int) k u = k ns :=
  propext ⟨fun ⟨ms, e, h⟩ => by rw [map_int_inj e]; exact h, fun h => ⟨ns, rfl, h⟩⟩
omit [Tb] in
@[simp ↓] theorem onIs_f {α : Type} (as : List α) (f : α → Int) (k : List Int → Prop) (u : Stop k) : onIs (as.map fun a => PyData.int (f a)) k u = k (as.map f) := by
  have := onIs_i (as.map f) k u
  rw [List.map_map] at this; exact this
omit [Tb] in
@[simp ↓] theorem onBs_i (ns : List Bool) (k : List Bool → Prop) (u : Stop k) : onBs (ns.map PyData.bool) k u = k ns :=
  propext ⟨fun ⟨ms, e, h⟩ => by rw [map_bool_inj e]; exact h, fun h => ⟨ns, rfl, h⟩⟩
omit [Tb] in
@[simp ↓] theorem onBs_f {α : Type} (as : List α) (f : α → Bool) (k : List Bool → Prop) (u : Stop k) : onBs (as.map fun a => PyData.bool (f a)) k u = k (as.map f) := by
  have := onBs_i (as.map f) k u
  rw [List.map_map] at this; exact this
def allTr (bs : List Bool) : Bool := bs.all id
def anyTr (bs : List Bool) : Bool := bs.any id
theorem allTr_map {α : Type} (as : List α) (f : α → Bool) : allTr (as.map f) = as.all f := by simp [allTr, List.all_map]
theorem anyTr_map {α : Type} (as : List α) (f : α → Bool) : anyTr (as.map f) = as.any f := by simp [anyTr, List.any_map]
def onD (o : Option Cell) (k : PyData → Prop) (_u : Stop k) : Prop := match o with
  | some (.d z) => k z
  | _ => False
omit [Tb] in
@[simp ↓] theorem onD_d (z : PyData) (k : PyData → Prop) (u : Stop k) : onD (some (.d z)) k u = k z := rfl
theorem ex_d (o : Option Cell) (k : PyData → Prop) : (∃ z, o = some (.d z) ∧ k z) = onD o k .mk := by
  cases o with
  | none => simp [onD]
  | some c => cases c <;> simp [onD]
def asB (x : PyData) (k : Bool → Prop) (_u : Stop k) : Prop := match x with
  | .bool b => k b
  | _ => False
def asI (x : PyData) (k : Int → Prop) (_u : Stop k) : Prop := match x with
  | .int b => k b
  | _ => False
omit [Tb] in
@[simp ↓] theorem asB_b (b : Bool) (k : Bool → Prop) (u : Stop k) : asB (.bool b) k u = k b := rfl
omit [Tb] in
@[simp ↓] theorem asI_i (b : Int) (k : Int → Prop) (u : Stop k) : asI (.int b) k u = k b := rfl
theorem ex_bool (x : PyData) (k : Bool → Prop) : (∃ b, x = .bool b ∧ k b) = asB x k .mk := by
  cases x <;> simp [asB]
theorem ex_int (x : PyData) (k : Int → Prop) : (∃ b, x = .int b ∧ k b) = asI x k .mk := by
  cases x <;> simp [asI]
omit [Tb] in
@[simp ↓] theorem wOfL_ap (w : DL) (δ : DS) (R : Opd → DS → Prop) : wOfL w δ R = (w δ fun xs δ' => R (.d (.list xs)) δ') := rfl
def varC (o : Option Cell) (i : Nat) (k : Opd → Prop) (_u : Stop k) : Prop := match o with
  | some (.d x) => k (.d x)
  | some .em => False
  | none => False
  | _ => k (.s i)
omit [Tb] in
@[simp ↓] theorem varC_d (x : PyData) (i : Nat) (k : Opd → Prop) (u : Stop k) : varC (some (.d x)) i k u = k (.d x) := rfl
omit [Tb] in
@[simp ↓] theorem varC_ol (a : Addr) (xs : List PyData) (i : Nat) (k : Opd → Prop) (u : Stop k) : varC (some (.ol a xs)) i k u = k (.s i) := rfl
omit [Tb] in
@[simp ↓] theorem varC_dk (a b c : Addr) (i : Nat) (k : Opd → Prop) (u : Stop k) : varC (some (.dk a b c)) i k u = k (.s i) := rfl
omit [Tb] in
@[simp ↓] theorem varC_dx (a b c : Addr) (xs : List Int) (n : Int) (ys : List Int) (i : Nat) (k : Opd → Prop) (u : Stop k) : varC (some (.dx a b c xs n ys)) i k u = k (.s i) := rfl
omit [Tb] in
@[simp ↓] theorem varC_scr (a : Addr) (ns : List Int) (i : Nat) (k : Opd → Prop) (u : Stop k) : varC (some (.scr a ns)) i k u = k (.s i) := rfl
def useC (o : Option Cell) (k : PyData → Prop) (_u : Stop k) : Prop := match o with
  | some (.d x) => k x
  | some (.ol _ xs) => k (.list xs)
  | _ => False
omit [Tb] in
@[simp ↓] theorem useC_d (x : PyData) (k : PyData → Prop) (u : Stop k) : useC (some (.d x)) k u = k x := rfl
omit [Tb] in
@[simp ↓] theorem useC_ol (a : Addr) (xs : List PyData) (k : PyData → Prop) (u : Stop k) : useC (some (.ol a xs)) k u = k (.list xs) := rfl
def lkC (o : Option Cell) (k l : PyData → Prop) (_u : Stop k) (_v : Stop l) : Prop := match o with
  | some (.d x) => k x
  | some (.ol _ xs) => l (.list xs)
  | _ => False
omit [Tb] in
@[simp ↓] theorem lkC_d (x : PyData) (k l : PyData → Prop) (u : Stop k) (v : Stop l) : lkC (some (.d x)) k l u v = k x := rfl
omit [Tb] in
@[simp ↓] theorem lkC_ol (a : Addr) (xs : List PyData) (k l : PyData → Prop) (u : Stop k) (v : Stop l) : lkC (some (.ol a xs)) k l u v = l (.list xs) := rfl
def olC (o : Option Cell) (k : Addr → List PyData → Prop) (_u : Stop k) : Prop := match o with
  | some (.ol a xs) => k a xs
  | _ => False
omit [Tb] in
@[simp ↓] theorem olC_ol (a : Addr) (xs : List PyData) (k : Addr → List PyData → Prop) (u : Stop k) : olC (some (.ol a xs)) k u = k a xs := rfl
def asS (x : PyData) (k : List PyData → Prop) (_u : Stop k) : Prop := match x with
  | .tuple xs => k xs
  | .list xs => k xs
  | _ => False
omit [Tb] in
@[simp ↓] theorem asS_t (xs : List PyData) (k : List PyData → Prop) (u : Stop k) : asS (.tuple xs) k u = k xs := rfl
omit [Tb] in
@[simp ↓] theorem asS_l (xs : List PyData) (k : List PyData → Prop) (u : Stop k) : asS (.list xs) k u = k xs := rfl
omit [Tb] in
@[simp ↓] theorem wVar_ap (i : Nat) (δ : DS) (R : Opd → DS → Prop) : wVar i δ R = varC δ[i]? i (fun o => R o δ) .mk := rfl
omit [Tb] in
@[simp ↓] theorem wC_ap (x : PyData) (δ : DS) (R : Opd → DS → Prop) : wC x δ R = (R (.d x) δ) := rfl
omit [Tb] in
@[simp ↓] theorem wNil_ap (δ : DS) (R : List Opd → DS → Prop) : wNil  δ R = (R [] δ) := rfl
omit [Tb] in
@[simp ↓] theorem wCons_ap (w : DE) (r : DA) (δ : DS) (R : List Opd → DS → Prop) : wCons w r δ R = (w δ fun o δ1 => r δ1 fun os δ2 => R (o :: os) δ2) := rfl
omit [Tb] in
@[simp ↓] theorem wOp_ap (p : P2) (wa wb : DE) (δ : DS) (R : Opd → DS → Prop) : wOp p wa wb δ R = (wa δ fun o1 δ1 => wb δ1 fun o2 δ2 => use o1 δ2 fun x => use o2 δ2 fun y => p x y fun z => R (.d z) δ2) := rfl
omit [Tb] in
@[simp ↓] theorem wB_ap (w : DE) (δ : DS) (R : Bool → DS → Prop) : wB w δ R = (w δ fun o δ1 => use o δ1 fun x => asB x (fun b => R b δ1) .mk) := by
  unfold wB; simp only [← ex_bool, ← ex_int]
omit [Tb] in
@[simp ↓] theorem wChain_ap (p q : P2) (wa wb wc : DE) (δ : DS) (R : Opd → DS → Prop) : wChain p q wa wb wc δ R = (wa δ fun o1 δ1 => wb δ1 fun o2 δ2 => use o1 δ2 fun x => use o2 δ2 fun y => p x y fun z => asB z (fun k =>
  if k = true then wc δ2 fun o3 δ3 => use o2 δ3 fun y => use o3 δ3 fun w => q y w fun z => R (.d z) δ3 else R (.d (.bool false)) δ2) .mk) := by
  unfold wChain; simp only [← ex_bool, ← ex_int]
omit [Tb] in
@[simp ↓] theorem wAnd_ap (t u : DT) (δ : DS) (R : Bool → DS → Prop) : wAnd t u δ R = (t δ fun k δ1 => if k = true then u δ1 R else R false δ1) := rfl
omit [Tb] in
@[simp ↓] theorem wOr_ap (t u : DT) (δ : DS) (R : Bool → DS → Prop) : wOr t u δ R = (t δ fun k δ1 => if k = true then R true δ1 else u δ1 R) := rfl
omit [Tb] in
@[simp ↓] theorem wNot_ap (t : DT) (δ : DS) (R : Bool → DS → Prop) : wNot t δ R = (t δ fun k δ1 => R (!k) δ1) := rfl
omit [Tb] in
@[simp ↓] theorem wAndV_ap (w u : DE) (δ : DS) (R : Opd → DS → Prop) : wAndV w u δ R = (w δ fun o δ1 => use o δ1 fun x => asB x (fun k => if k = true then u δ1 R else R (.d (.bool false)) δ1) .mk) := by
  unfold wAndV; simp only [← ex_bool, ← ex_int]
omit [Tb] in
@[simp ↓] theorem wOrV_ap (w u : DE) (δ : DS) (R : Opd → DS → Prop) : wOrV w u δ R = (w δ fun o δ1 => use o δ1 fun x => asB x (fun k => if k = true then R (.d (.bool true)) δ1 else u δ1 R) .mk) := by
  unfold wOrV; simp only [← ex_bool, ← ex_int]
omit [Tb] in
@[simp ↓] theorem wNotV_ap (w : DE) (δ : DS) (R : Opd → DS → Prop) : wNotV w δ R = (w δ fun o δ1 => use o δ1 fun x => asB x (fun k => R (.d (.bool (!k))) δ1) .mk) := by
  unfold wNotV; simp only [← ex_bool, ← ex_int]
omit [Tb] in
@[simp ↓] theorem wIfE_ap (t : DT) (wa wb : DE) (δ : DS) (R : Opd → DS → Prop) : wIfE t wa wb δ R = (t δ fun k δ1 => if k = true then wa δ1 R else wb δ1 R) := rfl
omit [Tb] in
@[simp ↓] theorem wUn_ap (p : PyData → (PyData → Prop) → Prop) (w : DE) (δ : DS) (R : Opd → DS → Prop) : wUn p w δ R = (w δ fun o δ1 => use o δ1 fun x => p x fun z => R (.d z) δ1) := rfl
omit [Tb] in
@[simp ↓] theorem wTup_ap (w : DA) (δ : DS) (R : Opd → DS → Prop) : wTup w δ R = (w δ fun os δ1 => lkL os δ1 fun xs δ2 => xs.length ≤ 1000 ∧ R (.d (.tuple xs)) δ2) := rfl
omit [Tb] in
@[simp ↓] theorem wLst_ap (w : DA) (δ : DS) (R : List PyData → DS → Prop) : wLst w δ R = (w δ fun os δ1 => lkL os δ1 fun xs δ2 => xs.length ≤ 1000 ∧ R xs δ2) := rfl
omit [Tb] in
@[simp ↓] theorem wDic_ap (δ : DS) (R : Opd → DS → Prop) : wDic  δ R = (R (.d (.dict [])) δ) := rfl
omit [Tb] in
@[simp ↓] theorem wFn_ap (p : PN) (w : DA) (δ : DS) (R : Opd → DS → Prop) : wFn p w δ R = (w δ fun os δ1 => useL os δ1 fun xs => p xs fun z => R (.d z) δ1) := rfl
omit [Tb] in
@[simp ↓] theorem wFnL_ap (p : List PyData → (List PyData → Prop) → Prop) (w : DA) (δ : DS) (R : List PyData → DS → Prop) : wFnL p w δ R = (w δ fun os δ1 => useL os δ1 fun xs => p xs fun z => R z δ1) := rfl
omit [Tb] in
@[simp ↓] theorem wOpL_ap (p : P2L) (wa wb : DE) (δ : DS) (R : List PyData → DS → Prop) : wOpL p wa wb δ R = (wa δ fun o1 δ1 => wb δ1 fun o2 δ2 => use o1 δ2 fun x => use o2 δ2 fun y => p x y fun z => R z δ2) := rfl
omit [Tb] in
@[simp ↓] theorem wNoP_ap (δ : DS) (R : Option Int → DS → Prop) : wNoP  δ R = (R none δ) := rfl
omit [Tb] in
@[simp ↓] theorem wPart_ap (w : DE) (δ : DS) (R : Option Int → DS → Prop) : wPart w δ R = (w δ fun o δ1 => use o δ1 fun x => asI x (fun i => R (some i) δ1) .mk) := by
  unfold wPart; simp only [← ex_bool, ← ex_int]
omit [Tb] in
@[simp ↓] theorem wSl_ap (p : P3) (w : DE) (l h : DO) (δ : DS) (R : Opd → DS → Prop) : wSl p w l h δ R = (w δ fun o δ1 => l δ1 fun i δ2 => h δ2 fun j δ3 => use o δ3 fun x => p x i j fun z => R (.d z) δ3) := rfl
omit [Tb] in
@[simp ↓] theorem pSub_ap (i j : Int) (R : PyData → Prop) : pSub (.int i) (.int j) R = (R (.int (i - j))) := rfl
omit [Tb] in
@[simp ↓] theorem pMul_intiintj (i : Int) (j : Int) (R : PyData → Prop) : pMul (.int i) (.int j) R = ((CMul i j ∨ CMulW i j) ∧ R (.int (i * j))) := rfl
omit [Tb] in
@[simp ↓] theorem pMul_listxsintk (xs : List PyData) (k : Int) (R : PyData → Prop) : pMul (.list xs) (.int k) R = (0 ≤ k ∧ xs.length * k.toNat ≤ 1000000 ∧ k < 1000000 ∧ R (.list (List.replicate k.toNat xs).flatten)) := rfl
omit [Tb] in
@[simp ↓] theorem pDiv_ap (i j : Int) (R : PyData → Prop) : pDiv (.int i) (.int j) R = ((0 < j ∧ j.natAbs.log2 < 9000) ∧ R (.int (i / j))) := rfl
omit [Tb] in
@[simp ↓] theorem pMod_ap (i j : Int) (R : PyData → Prop) : pMod (.int i) (.int j) R = (0 < j ∧ R (.int (i % j))) := rfl
omit [Tb] in
@[simp ↓] theorem pPow_ap (i j : Int) (R : PyData → Prop) : pPow (.int i) (.int j) R = (CPow i j ∧ R (.int (i ^ j.toNat))) := rfl
omit [Tb] in
@[simp ↓] theorem pShl_ap (i j : Int) (R : PyData → Prop) : pShl (.int i) (.int j) R = (CPow i j ∧ R (.int (i * 2 ^ j.toNat))) := rfl
omit [Tb] in
@[simp ↓] theorem pAnd_ap (i j : Int) (R : PyData → Prop) : pAnd (.int i) (.int j) R = (R (.int (Builtin.bitAnd i j))) := rfl
omit [Tb] in
@[simp ↓] theorem pOr_ap (i j : Int) (R : PyData → Prop) : pOr (.int i) (.int j) R = (R (.int (Builtin.bitOr i j))) := rfl
omit [Tb] in
@[simp ↓] theorem pLt_intiintj (i : Int) (j : Int) (R : PyData → Prop) : pLt (.int i) (.int j) R = (R (.bool (decide (i < j)))) := rfl
omit [Tb] in
@[simp ↓] theorem pLe_ap (i j : Int) (R : PyData → Prop) : pLe (.int i) (.int j) R = (R (.bool (decide (i ≤ j)))) := rfl
omit [Tb] in
@[simp ↓] theorem pGt_ap (i j : Int) (R : PyData → Prop) : pGt (.int i) (.int j) R = (R (.bool (decide (j < i)))) := rfl
omit [Tb] in
@[simp ↓] theorem pGe_ap (i j : Int) (R : PyData → Prop) : pGe (.int i) (.int j) R = (R (.bool (decide (j ≤ i)))) := rfl
omit [Tb] in
@[simp ↓] theorem pAdd_intiintj (i : Int) (j : Int) (R : PyData → Prop) : pAdd (.int i) (.int j) R = (R (.int (i + j))) := rfl
omit [Tb] in
@[simp ↓] theorem pAdd_strastrb (a : Str) (b : Str) (R : PyData → Prop) : pAdd (.str a) (.str b) R = (a.length + b.length ≤ 1000000 ∧ R (.str (a ++ b))) := rfl
omit [Tb] in
@[simp ↓] theorem pAdd_tuplexstupleys (xs : List PyData) (ys : List PyData) (R : PyData → Prop) : pAdd (.tuple xs) (.tuple ys) R = (xs.length + ys.length ≤ 1000000 ∧ R (.tuple (xs ++ ys))) := rfl
omit [Tb] in
@[simp ↓] theorem pAdd_listxslistys (xs : List PyData) (ys : List PyData) (R : PyData → Prop) : pAdd (.list xs) (.list ys) R = (xs.length + ys.length ≤ 1000000 ∧ R (.list (xs ++ ys))) := rfl
omit [Tb] in
@[simp ↓] theorem pIs_boolaboolb (a : Bool) (b : Bool) (R : PyData → Prop) : pIs (.bool a) (.bool b) R = (R (.bool (decide (a = b)))) := rfl
omit [Tb] in
@[simp ↓] theorem pIsNot_boolaboolb (a : Bool) (b : Bool) (R : PyData → Prop) : pIsNot (.bool a) (.bool b) R = (R (.bool (!decide (a = b)))) := rfl
omit [Tb] in
@[simp ↓] theorem pIx_l (ds : List PyData) (i : Int) (R : PyData → Prop) : pIx (.list ds) (.int i) R = onS (atI ds i) R .mk := by rw [← ex_some]; rfl
omit [Tb] in
@[simp ↓] theorem pIx_t (ds : List PyData) (i : Int) (R : PyData → Prop) : pIx (.tuple ds) (.int i) R = onS (atI ds i) R .mk := by rw [← ex_some]; rfl
omit [Tb] in
@[simp ↓] theorem pIx_s (z : Str) (i : Int) (R : PyData → Prop) : pIx (.str z) (.int i) R = (z.length ≤ 1000000 ∧ onS (atI z.cps.toList i) (fun c => R (.str ⟨#[c]⟩)) .mk) := by rw [← ex_some]; rfl
omit [Tb] in
@[simp ↓] theorem mE_ap (w : DE) (δ : DS) (R : Cell → DS → Prop) : mE w δ R = (w δ fun o δ1 => lk o δ1 fun x δ2 => R (.d x) δ2) := rfl
omit [Tb] in
@[simp ↓] theorem mL_ap (w : DL) (δ : DS) (R : Cell → DS → Prop) : mL w δ R = (w δ fun xs δ1 => ∀ a, R (.ol a xs) δ1) := rfl
omit [Tb] in
@[simp ↓] theorem msNil_ap (δ : DS) (R : List Cell → DS → Prop) : msNil  δ R = (R [] δ) := rfl
omit [Tb] in
@[simp ↓] theorem msCons_ap (w : DM) (r : DMs) (δ : DS) (R : List Cell → DS → Prop) : msCons w r δ R = (w δ fun c δ1 => r δ1 fun cs δ2 => R (c :: cs) δ2) := rfl
omit [Tb] in
@[simp ↓] theorem wNext_ap (E : DEnds) (δ : DS) : wNext  E δ = (E.nx δ) := rfl
omit [Tb] in
@[simp ↓] theorem wSeq_ap (t u : DTS) (E : DEnds) (δ : DS) : wSeq t u E δ = (t { E with nx := u E } δ) := rfl
omit [Tb] in
@[simp ↓] theorem wBrk_ap (E : DEnds) (δ : DS) : wBrk  E δ = (E.bk δ) := rfl
omit [Tb] in
@[simp ↓] theorem wCnt_ap (E : DEnds) (δ : DS) : wCnt  E δ = (E.ct δ) := rfl
omit [Tb] in
@[simp ↓] theorem wRet_ap (w : DE) (E : DEnds) (δ : DS) : wRet w E δ = (w δ fun o δ1 => lk o δ1 fun x δ2 => E.rt x δ2) := rfl
omit [Tb] in
@[simp ↓] theorem wRetN_ap (E : DEnds) (δ : DS) : wRetN  E δ = (E.rt .none δ) := rfl
omit [Tb] in
@[simp ↓] theorem wIf_ap (c : DT) (t u : DTS) (E : DEnds) (δ : DS) : wIf c t u E δ = (c δ fun b δ1 => if b = true then t E δ1 else u E δ1) := rfl
omit [Tb] in
@[simp ↓] theorem wNever_ap (x0 : DEnds) (x1 : DS) : wNever  x0 x1 = (False) := rfl
omit [Tb] in
@[simp ↓] theorem wDrop_ap (w : DE) (E : DEnds) (δ : DS) : wDrop w E δ = (w δ fun _ δ1 => E.nx δ1) := rfl
omit [Tb] in
@[simp ↓] theorem wSet_ap (i : Nat) (w : DM) (E : DEnds) (δ : DS) : wSet i w E δ = (w δ fun c δ1 => E.nx (δ1.set i c)) := rfl
omit [Tb] in
@[simp ↓] theorem wPar2_ap (i j : Nat) (w : DMs) (E : DEnds) (δ : DS) : wPar2 i j w E δ = (w δ fun cs δ1 => match cs with
  | [c, d] => E.nx ((δ1.set i c).set j d)
  | _ => False) := by
  unfold wPar2
  congr 1; funext cs δ1
  match cs with
  | [] => simp
  | [c] => simp
  | [c, d] => exact propext ⟨fun ⟨c', d', e, h⟩ => by cases e; exact h, fun h => ⟨c, d, rfl, h⟩⟩
  | c :: d :: e :: r => simp
omit [Tb] in
@[simp ↓] theorem wAug_ap (i : Nat) (p : P2) (w : DE) (E : DEnds) (δ : DS) : wAug i p w E δ = onD δ[i]? (fun x => w δ fun o δ1 => use o δ1 fun y => p x y fun z => E.nx (δ1.set i (.d z))) .mk := by
  rw [← ex_d]; rfl
omit [Tb] in
@[simp ↓] theorem gN_ap (i : Nat) (x : PyData) (δ : DS) (R : DS → Prop) : gN i x δ R = (R (δ.set i (.d x))) := rfl
omit [Tb] in
@[simp ↓] theorem gsNil_ap (xs : List PyData) (δ : DS) (R : DS → Prop) : gsNil  xs δ R = (match xs with
  | [] => R δ
  | _ => False) := rfl
omit [Tb] in
@[simp ↓] theorem gsCons_ap (g : DTG) (r : DTGs) (xs : List PyData) (δ : DS) (R : DS → Prop) : gsCons g r xs δ R = (match xs with
  | x :: xs => g x δ fun δ1 => r xs δ1 R
  | [] => False) := rfl
omit [Tb] in
@[simp ↓] theorem gT_ap (r : DTGs) (x : PyData) (δ : DS) (R : DS → Prop) : gT r x δ R = (match x with
  | .tuple xs => r xs δ R
  | _ => False) := rfl
omit [Tb] in
@[simp ↓] theorem iSeq_ap (w : DE) (δ : DS) (R : List PyData → DS → Prop) : iSeq w δ R = (w δ fun o δ1 => lk o δ1 fun x δ2 => asS x (fun xs => R xs δ2) .mk) := rfl
def rng1 (xs : List PyData) (k : Int → Prop) (_u : Stop k) : Prop := ∃ j, xs = [PyData.int j] ∧ k j
def rng2 (xs : List PyData) (k : Int → Int → Prop) (_u : Stop k) : Prop := ∃ i j, xs = [PyData.int i, PyData.int j] ∧ k i j
omit [Tb] in
@[simp ↓] theorem rng1_i (j : Int) (k : Int → Prop) (u : Stop k) : rng1 [.int j] k u = k j := propext ⟨fun ⟨_, e, h⟩ => by cases e; exact h, fun h => ⟨j, rfl, h⟩⟩
omit [Tb] in
@[simp ↓] theorem rng2_i (i j : Int) (k : Int → Int → Prop) (u : Stop k) : rng2 [.int i, .int j] k u = k i j := propext ⟨fun ⟨_, _, e, h⟩ => by cases e; exact h, fun h => ⟨i, j, rfl, h⟩⟩
omit [Tb] in
@[simp ↓] theorem iRange1_ap (w : DA) (δ : DS) (R : List PyData → DS → Prop) : iRange1 w δ R = (w δ fun os δ1 => useL os δ1 fun xs => rng1 xs (fun j => -1000000 ≤ j ∧ j ≤ 1000000 ∧ R (nums 0 j.toNat) δ1) .mk) := rfl
omit [Tb] in
@[simp ↓] theorem iRange2_ap (w : DA) (δ : DS) (R : List PyData → DS → Prop) : iRange2 w δ R = (w δ fun os δ1 => useL os δ1 fun xs => rng2 xs (fun i j => (-1000000 ≤ i ∧ i ≤ 1000000 ∧ -1000000 ≤ j ∧ j ≤ 1000000) ∧ R (nums i (j - i).toNat) δ1) .mk) := rfl
omit [Tb] in
@[simp ↓] theorem wFor_ap (wi : DL) (g : DTG) (b : DTS) (E : DEnds) (δ : DS) : wFor wi g b E δ = (wi δ fun xs δ1 => forC g b xs δ1 E .mk) := rfl
omit [Tb] in
@[simp ↓] theorem wWhile_ap (c : DT) (b : DTS) (E : DEnds) (δ : DS) : wWhile c b E δ = whileC c b δ E .mk := rfl
omit [Tb] in
@[simp ↓] theorem wComp_ap (wi : DL) (g : DTG) (t : DT) (e : DE) (vs : List Nat) (δ : DS) (R : List PyData → DS → Prop) : wComp wi g t e vs δ R = (wi δ fun xs δ1 => comC g t e vs xs [] (wipeD δ1 vs) (fun ys δ2 => R ys (backD δ1 δ2 vs)) .mk) := rfl
omit [Tb] in
@[simp ↓] theorem wAppend_ap (i : Nat) (w : DE) (E : DEnds) (δ : DS) : wAppend i w E δ = (isOl δ i ∧ w δ fun o δ1 => lk o δ1 fun y δ2 => olC δ2[i]? (fun a xs => xs.length ≤ 1000000 ∧ E.nx (δ2.set i (.ol a (xs ++ [y])))) .mk) := rfl
omit [Tb] in
@[simp ↓] theorem wExtend_ap (i : Nat) (w : DE) (E : DEnds) (δ : DS) : wExtend i w E δ = (isOl δ i ∧ w δ fun o δ1 => use o δ1 fun y => ∃ ys, y = .list ys ∧ olC δ1[i]? (fun a xs => xs.length + ys.length ≤ 1000000 ∧ E.nx (δ1.set i (.ol a (xs ++ ys)))) .mk) := rfl
omit [Tb] in
@[simp ↓] theorem wPut_ap (i : Nat) (we wi : DE) (E : DEnds) (δ : DS) : wPut i we wi E δ = (we δ fun o δ1 => lk o δ1 fun y δ2 => isOl δ2 i ∧ wi δ2 fun oj δ3 => use oj δ3 fun j => asI j (fun j => olC δ3[i]? (fun a xs => ∃ n, ixN xs.length j = some n ∧ E.nx (δ3.set i (.ol a (xs.set n y)))) .mk) .mk) := by
  unfold wPut
  congr 1; funext o δ1; congr 1; funext y δ2; congr 1; congr 1; funext oj δ3; congr 1; funext j
  cases j <;> simp only [asI]
  cases δ3[i]? with
  | none => rfl
  | some c => cases c <;> rfl
omit [Tb] in
@[simp ↓] theorem wPop_ap (i : Nat) (δ : DS) (R : Opd → DS → Prop) : wPop i δ R = olC δ[i]? (fun a xs => onS xs.getLast? (fun y => R (.d y) (δ.set i (.ol a xs.dropLast))) .mk) .mk := by
  unfold wPop
  cases δ[i]? with
  | none => rfl
  | some c => cases c <;> first | rfl | exact ex_some _ _
omit [Tb] in
@[simp ↓] theorem wCall_ap (m : List Bool) (sp : DSp) (w : DA) (δ : DS) (R : Opd → DS → Prop) : wCall m sp w δ R = (w δ fun os δ1 => lkM m os δ1 fun os' δ2 => (slotsOf os').Nodup ∧ ask sp (os'.map (cellOf δ2)) (fun x cs => R (.d x) (putBack os' cs δ2)) .mk) := rfl
omit [Tb] in
@[simp ↓] theorem iZip2_ap (w : DA) (δ : DS) (R : List PyData → DS → Prop) : iZip2 w δ R = (w δ fun os δ1 => lkL os δ1 fun ds δ2 => match ds with
  | [a, b] => onS (seqOf a) (fun xs => onS (seqOf b) (fun ys => R (pairsD xs ys) δ2) .mk) .mk
  | _ => False) := by
  unfold iZip2; simp only [← ex_some, ← exists_and_left] <;> rfl
omit [Tb] in
@[simp ↓] theorem iZip3_ap (w : DA) (δ : DS) (R : List PyData → DS → Prop) : iZip3 w δ R = (w δ fun os δ1 => lkL os δ1 fun ds δ2 => match ds with
  | [a, b, c] => onS (seqOf a) (fun xs => onS (seqOf b) (fun ys => onS (seqOf c) (fun zs => R (triosD xs ys zs) δ2) .mk) .mk) .mk
  | _ => False) := by
  unfold iZip3; simp only [← ex_some, ← exists_and_left] <;> rfl
omit [Tb] in
@[simp ↓] theorem iEnumD_ap (w : DA) (δ : DS) (R : List PyData → DS → Prop) : iEnumD w δ R = (w δ fun os δ1 => lkL os δ1 fun ds δ2 => match ds with
  | [a] => onS (seqOf a) (fun xs => R (numbered 0 xs) δ2) .mk
  | _ => False) := by
  unfold iEnumD; simp only [← ex_some] <;> rfl
omit [Tb] in
@[simp ↓] theorem use_d (x : PyData) (δ : DS) (k : PyData → Prop) : use (.d x) δ k = k x := rfl
omit [Tb] in
@[simp ↓] theorem use_s (i : Nat) (δ : DS) (k : PyData → Prop) : use (.s i) δ k = useC δ[i]? k .mk := rfl
omit [Tb] in
@[simp ↓] theorem lk_d (x : PyData) (δ : DS) (k : PyData → DS → Prop) : lk (.d x) δ k = k x δ := rfl
omit [Tb] in
@[simp ↓] theorem lk_s (i : Nat) (δ : DS) (k : PyData → DS → Prop) : lk (.s i) δ k = lkC δ[i]? (fun x => k x δ) (fun x => k x (δ.set i (.d x))) .mk .mk := by
  show (match δ[i]? with
    | some (.d x) => k x δ
    | some (.ol _ xs) => k (.list xs) (δ.set i (.d (.list xs)))
    | _ => False) = _
  unfold lkC
  cases δ[i]? with
  | none => rfl
  | some c => cases c <;> rfl
omit [Tb] in
@[simp ↓] theorem useL_nil (δ : DS) (k : List PyData → Prop) : useL [] δ k = k [] := rfl
omit [Tb] in
@[simp ↓] theorem useL_cons (o : Opd) (os : List Opd) (δ : DS) (k : List PyData → Prop) : useL (o :: os) δ k = (use o δ fun x => useL os δ fun xs => k (x :: xs)) := rfl
omit [Tb] in
@[simp ↓] theorem lkL_nil (δ : DS) (k : List PyData → DS → Prop) : lkL [] δ k = k [] δ := rfl
omit [Tb] in
@[simp ↓] theorem lkL_cons (o : Opd) (os : List Opd) (δ : DS) (k : List PyData → DS → Prop) : lkL (o :: os) δ k = (lk o δ fun x δ1 => lkL os δ1 fun xs δ2 => k (x :: xs) δ2) := rfl
omit [Tb] in
@[simp ↓] theorem lkM_nil (m : List Bool) (δ : DS) (k : List Opd → DS → Prop) : lkM m [] δ k = k [] δ := by unfold lkM; rfl
omit [Tb] in
@[simp ↓] theorem lkM_t (m : List Bool) (o : Opd) (os : List Opd) (δ : DS) (k : List Opd → DS → Prop) : lkM (true :: m) (o :: os) δ k = (lkM m os δ fun r δ' => k (o :: r) δ') := by
  conv => lhs; unfold lkM
  rfl
omit [Tb] in
@[simp ↓] theorem lkM_f (m : List Bool) (o : Opd) (os : List Opd) (δ : DS) (k : List Opd → DS → Prop) : lkM (false :: m) (o :: os) δ k = (lk o δ fun x δ1 => lkM m os δ1 fun r δ' => k (.d x :: r) δ') := by
  conv => lhs; unfold lkM
  rfl
omit [Tb] in
@[simp ↓] theorem lkM_0 (o : Opd) (os : List Opd) (δ : DS) (k : List Opd → DS → Prop) : lkM [] (o :: os) δ k = (lk o δ fun x δ1 => lkM [] os δ1 fun r δ' => k (.d x :: r) δ') := by
  conv => lhs; unfold lkM
  rfl
omit [Tb] in
@[simp] theorem cellOf_d (δ : DS) (x : PyData) : cellOf δ (.d x) = .d x := rfl
omit [Tb] in
@[simp] theorem cellOf_s (δ : DS) (i : Nat) : cellOf δ (.s i) = (δ[i]?).getD .em := rfl
omit [Tb] in
@[simp ↓] theorem putBack_nil (cs : List Cell) (δ : DS) : putBack [] cs δ = δ := by cases cs <;> rfl
omit [Tb] in
@[simp ↓] theorem putBack_s (i : Nat) (os : List Opd) (c : Cell) (cs : List Cell) (δ : DS) : putBack (.s i :: os) (c :: cs) δ = putBack os cs (δ.set i c) := rfl
omit [Tb] in
@[simp ↓] theorem putBack_d (x : PyData) (os : List Opd) (c : Cell) (cs : List Cell) (δ : DS) : putBack (.d x :: os) (c :: cs) δ = putBack os cs δ := rfl
omit [Tb] in
@[simp] theorem slotsOf_nil : slotsOf [] = [] := rfl
omit [Tb] in
@[simp] theorem slotsOf_s (i : Nat) (os : List Opd) : slotsOf (.s i :: os) = i :: slotsOf os := rfl
omit [Tb] in
@[simp] theorem slotsOf_d (x : PyData) (os : List Opd) : slotsOf (.d x :: os) = slotsOf os := rfl
omit [Tb] in
@[simp ↓] theorem pNeg_i (i : Int) (R : PyData → Prop) : pNeg (.int i) R = R (.int (-i)) := rfl
omit [Tb] in
@[simp ↓] theorem pIs_n (x : PyData) (R : PyData → Prop) : pIs x .none R = R (.bool (isNone x)) := by cases x <;> rfl
omit [Tb] in
@[simp ↓] theorem pIsNot_n (x : PyData) (R : PyData → Prop) : pIsNot x .none R = R (.bool (!isNone x)) := by cases x <;> rfl
omit [Tb] in
@[simp ↓] theorem isNone_n : isNone .none = true := rfl
omit [Tb] in
@[simp ↓] theorem isNone_i (i : Int) : isNone (.int i) = false := rfl
omit [Tb] in
@[simp ↓] theorem isNone_b (i : Bool) : isNone (.bool i) = false := rfl
omit [Tb] in
@[simp ↓] theorem isNone_s (i : Str) : isNone (.str i) = false := rfl
omit [Tb] in
@[simp ↓] theorem isNone_l (i : List PyData) : isNone (.list i) = false := rfl
omit [Tb] in
@[simp ↓] theorem isNone_t (i : List PyData) : isNone (.tuple i) = false := rfl
omit [Tb] in
@[simp ↓] theorem isNone_d (i : List (PyData × PyData)) : isNone (.dict i) = false := rfl
omit [Tb] in
@[simp ↓] theorem pAddL_ll (xs ys : List PyData) (R : List PyData → Prop) : pAddL (.list xs) (.list ys) R = (xs.length + ys.length ≤ 1000000 ∧ R (xs ++ ys)) := rfl
omit [Tb] in
@[simp ↓] theorem pMulL_ll (xs : List PyData) (k : Int) (R : List PyData → Prop) : pMulL (.list xs) (.int k) R = (0 ≤ k ∧ xs.length * k.toNat ≤ 1000000 ∧ k < 1000000 ∧ R (List.replicate k.toNat xs).flatten) := rfl
omit [Tb] in
@[simp ↓] theorem pIn_l (x : PyData) (ds : List PyData) (R : PyData → Prop) : pIn x (.list ds) R = (SeqAt.shaped x = true ∧ SeqAt.shaped (.list ds) = true ∧ R (.bool (ds.any fun z => PyData.eqv z x))) := rfl
omit [Tb] in
@[simp ↓] theorem pIn_t (x : PyData) (ds : List PyData) (R : PyData → Prop) : pIn x (.tuple ds) R = (SeqAt.shaped x = true ∧ SeqAt.shaped (.tuple ds) = true ∧ R (.bool (ds.any fun z => PyData.eqv z x))) := rfl
omit [Tb] in
@[simp ↓] theorem pIn_s (x : PyData) (z : Str) (R : PyData → Prop) : pIn x (.str z) R = (∃ c : Nat, x = .str ⟨#[c]⟩ ∧ R (.bool (decide (c ∈ z.cps.toList)))) := rfl
omit [Tb] in
@[simp ↓] theorem pNotIn_l (x : PyData) (ds : List PyData) (R : PyData → Prop) : pNotIn x (.list ds) R = (SeqAt.shaped x = true ∧ SeqAt.shaped (.list ds) = true ∧ R (.bool (!ds.any fun z => PyData.eqv z x))) := rfl
omit [Tb] in
@[simp ↓] theorem pNotIn_t (x : PyData) (ds : List PyData) (R : PyData → Prop) : pNotIn x (.tuple ds) R = (SeqAt.shaped x = true ∧ SeqAt.shaped (.tuple ds) = true ∧ R (.bool (!ds.any fun z => PyData.eqv z x))) := rfl
omit [Tb] in
@[simp ↓] theorem pNotIn_s (x : PyData) (z : Str) (R : PyData → Prop) : pNotIn x (.str z) R = (∃ c : Nat, x = .str ⟨#[c]⟩ ∧ R (.bool (!decide (c ∈ z.cps.toList)))) := rfl
omit [Tb] in
@[simp ↓] theorem pSl_l (ds : List PyData) (lo hi : Option Int) (R : PyData → Prop) : pSl (.list ds) lo hi R = R (.list (cutD ds lo hi)) := rfl
omit [Tb] in
@[simp ↓] theorem pSl_t (ds : List PyData) (lo hi : Option Int) (R : PyData → Prop) : pSl (.tuple ds) lo hi R = R (.tuple (cutD ds lo hi)) := rfl
omit [Tb] in
@[simp ↓] theorem pSl_s (z : Str) (lo hi : Option Int) (R : PyData → Prop) : pSl (.str z) lo hi R = (z.length ≤ 1000000 ∧ R (.str (cutS z lo hi))) := rfl
omit [Tb] in
@[simp ↓] theorem pLen_l (ds : List PyData) (R : PyData → Prop) : pLen [.list ds] R = R (.int ds.length) := rfl
omit [Tb] in
@[simp ↓] theorem pLen_t (ds : List PyData) (R : PyData → Prop) : pLen [.tuple ds] R = R (.int ds.length) := rfl
omit [Tb] in
@[simp ↓] theorem pLen_s (z : Str) (R : PyData → Prop) : pLen [.str z] R = (z.length ≤ 1000000 ∧ R (.int z.length)) := rfl
omit [Tb] in
@[simp ↓] theorem pTupOf_l (ds : List PyData) (R : PyData → Prop) : pTupOf [.list ds] R = R (.tuple ds) := rfl
omit [Tb] in
@[simp ↓] theorem pTupOf_t (ds : List PyData) (R : PyData → Prop) : pTupOf [.tuple ds] R = R (.tuple ds) := rfl
omit [Tb] in
@[simp ↓] theorem pLstOf_l (ds : List PyData) (R : List PyData → Prop) : pLstOf [.list ds] R = R ds := rfl
omit [Tb] in
@[simp ↓] theorem pLstOf_t (ds : List PyData) (R : List PyData → Prop) : pLstOf [.tuple ds] R = R ds := rfl
omit [Tb] in
@[simp ↓] theorem pInt_i (i : Int) (R : PyData → Prop) : pInt [.int i] R = R (.int i) := rfl
omit [Tb] in
@[simp ↓] theorem pInt_b (b : Bool) (R : PyData → Prop) : pInt [.bool b] R = R (.int (if b then 1 else 0)) := rfl
omit [Tb] in
@[simp ↓] theorem pInt_s (z : Str) (R : PyData → Prop) : pInt [.str z] R = (∃ n, PySem.intText? z = some n ∧ z.length ≤ 640 ∧ R (.int n)) := rfl
omit [Tb] in
@[simp ↓] theorem pBool_i (i : Int) (R : PyData → Prop) : pBool [.int i] R = R (.bool (i != 0)) := rfl
omit [Tb] in
@[simp ↓] theorem pBool_b (b : Bool) (R : PyData → Prop) : pBool [.bool b] R = R (.bool b) := rfl
omit [Tb] in
@[simp ↓] theorem pStr_i (i : Int) (R : PyData → Prop) : pStr [.int i] R = (i.natAbs.log2 < 1920 ∧ R (.str (toString i))) := rfl
omit [Tb] in
@[simp ↓] theorem pStr_s (z : Str) (R : PyData → Prop) : pStr [.str z] R = R (.str z) := rfl
omit [Tb] in
@[simp ↓] theorem pAbs_i (i : Int) (R : PyData → Prop) : pAbs [.int i] R = R (.int (if i < 0 then -i else i)) := rfl
omit [Tb] in
@[simp ↓] theorem pMax2_i (i j : Int) (R : PyData → Prop) : pMax2 [.int i, .int j] R = R (.int (if j > i then j else i)) := rfl
omit [Tb] in
@[simp ↓] theorem pMin2_i (i j : Int) (R : PyData → Prop) : pMin2 [.int i, .int j] R = R (.int (if j < i then j else i)) := rfl
omit [Tb] in
@[simp ↓] theorem pSum_l (ds : List PyData) (R : PyData → Prop) : pSum [.list ds] R = onIs ds (fun ns => R (.int ns.sum)) .mk := rfl
omit [Tb] in
@[simp ↓] theorem pMax_l (ds : List PyData) (R : PyData → Prop) : pMax [.list ds] R = onIs ds (fun ns => 0 < ns.length ∧ ∀ m, m ∈ ns → (∀ y ∈ ns, y ≤ m) → R (.int m)) .mk := rfl
omit [Tb] in
@[simp ↓] theorem pMin_l (ds : List PyData) (R : PyData → Prop) : pMin [.list ds] R = onIs ds (fun ns => 0 < ns.length ∧ ∀ m, m ∈ ns → (∀ y ∈ ns, m ≤ y) → R (.int m)) .mk := rfl
omit [Tb] in
@[simp ↓] theorem pAll_l (ds : List PyData) (R : PyData → Prop) : pAll [.list ds] R = onBs ds (fun bs => R (.bool (allTr bs))) .mk := rfl
omit [Tb] in
@[simp ↓] theorem pAny_l (ds : List PyData) (R : PyData → Prop) : pAny [.list ds] R = onBs ds (fun bs => R (.bool (anyTr bs))) .mk := rfl
omit [Tb] in
@[simp ↓] theorem pRepr_x (x : PyData) (R : PyData → Prop) : pRepr [x] R = (x.showable = true ∧ x.hasDict = false ∧ x.depth ≤ 60 ∧ x.shown.length ≤ 16000000 ∧ R (.str x.shown)) := rfl
omit [Tb] in
@[simp ↓] theorem wIsi_ap (T : String) (w : DE) (δ : DS) (R : Opd → DS → Prop) : wIsi T w δ R = (w δ fun o δ1 => use o δ1 fun x => R (.d (.bool (isTy T x))) δ1) := rfl
omit [Tb] in
@[simp ↓] theorem wRevL_ap (w : DE) (δ : DS) (R : Opd → DS → Prop) : wRevL w δ R = (w δ fun o δ1 => use o δ1 fun x => ∃ ds, x = .list ds ∧ R (.d (.list ds.reverse)) δ1) := rfl
omit [Tb] in
@[simp] theorem tT_ap (δ : DS) (R : Bool → DS → Prop) : tT δ R = R true δ := rfl
omit [Tb] in
@[simp ↓] theorem wipeD_nil (δ : DS) : wipeD δ [] = δ := rfl
omit [Tb] in
@[simp ↓] theorem wipeD_cons (δ : DS) (v : Nat) (vs : List Nat) : wipeD δ (v :: vs) = (wipeD δ vs).set v .em := rfl
omit [Tb] in
@[simp] theorem backD_nil (δ0 δ : DS) : backD δ0 δ [] = δ := rfl
omit [Tb] in
@[simp] theorem backD_cons (δ0 δ : DS) (v : Nat) (vs : List Nat) : backD δ0 δ (v :: vs) = (backD δ0 δ vs).set v (keepC ((δ0[v]?).getD .em)) := rfl
omit [Tb] in
@[simp] theorem keepC_d (x : PyData) : keepC (.d x) = .d x := rfl
omit [Tb] in
@[simp] theorem keepC_em : keepC .em = .em := rfl
omit [Tb] in
@[simp ↓] theorem isOl_ol (a : Addr) (xs : List PyData) (δ : DS) (i : Nat) (h : δ[i]? = some (.ol a xs)) : isOl δ i = True := eq_true ⟨a, xs, h⟩
omit [Tb] in
@[simp] theorem seqOf_l (xs : List PyData) : seqOf (.list xs) = some xs := rfl
omit [Tb] in
@[simp] theorem seqOf_t (xs : List PyData) : seqOf (.tuple xs) = some xs := rfl
omit [Tb] in
@[simp] theorem endsOf_nx (cs : List Cell) (R : PyData → List Cell → Prop) (δ : DS) : (endsOf cs R).nx δ = (sameIo cs δ ∧ R .none (outC cs δ)) := rfl
omit [Tb] in
@[simp] theorem endsOf_rt (cs : List Cell) (R : PyData → List Cell → Prop) (x : PyData) (δ : DS) : (endsOf cs R).rt x δ = (sameIo cs δ ∧ R x (outC cs δ)) := rfl
omit [Tb] in
@[simp] theorem sameIo_nil (δ : DS) : sameIo [] δ = True := by unfold sameIo; rfl
omit [Tb] in
@[simp] theorem sameIo_d (x : PyData) (cs : List Cell) (e : Cell) (δ : DS) : sameIo (.d x :: cs) (e :: δ) = sameIo cs δ := rfl
omit [Tb] in
@[simp] theorem sameIo_em (cs : List Cell) (e : Cell) (δ : DS) : sameIo (.em :: cs) (e :: δ) = sameIo cs δ := rfl
omit [Tb] in
@[simp] theorem sameIo_scr (a : Addr) (ns : List Int) (cs : List Cell) (e : Cell) (δ : DS) : sameIo (.scr a ns :: cs) (e :: δ) = sameIo cs δ := rfl
omit [Tb] in
@[simp] theorem sameIo_ol (a : Addr) (xs : List PyData) (cs : List Cell) (e : Cell) (δ : DS) : sameIo (.ol a xs :: cs) (e :: δ) = ((∃ ys, e = .ol a ys) ∧ sameIo cs δ) := rfl
omit [Tb] in
@[simp] theorem sameIo_dk (a b c : Addr) (cs : List Cell) (e : Cell) (δ : DS) : sameIo (.dk a b c :: cs) (e :: δ) = (e = .dk a b c ∧ sameIo cs δ) := rfl
omit [Tb] in
@[simp] theorem outC_nil (δ : DS) : outC [] δ = [] := by unfold outC; rfl
omit [Tb] in
@[simp] theorem outC_d (x : PyData) (cs : List Cell) (e : Cell) (δ : DS) : outC (.d x :: cs) (e :: δ) = .d x :: outC cs δ := rfl
omit [Tb] in
@[simp] theorem outC_em (cs : List Cell) (e : Cell) (δ : DS) : outC (.em :: cs) (e :: δ) = .em :: outC cs δ := rfl
omit [Tb] in
@[simp] theorem outC_scr (a : Addr) (ns : List Int) (cs : List Cell) (e : Cell) (δ : DS) : outC (.scr a ns :: cs) (e :: δ) = .scr a ns :: outC cs δ := rfl
omit [Tb] in
@[simp] theorem outC_ol (a : Addr) (xs : List PyData) (cs : List Cell) (e : Cell) (δ : DS) : outC (.ol a xs :: cs) (e :: δ) = e :: outC cs δ := rfl
omit [Tb] in
@[simp] theorem outC_dk (a b c : Addr) (cs : List Cell) (e : Cell) (δ : DS) : outC (.dk a b c :: cs) (e :: δ) = e :: outC cs δ := rfl
omit [Tb] in
@[simp] theorem start0_ap (n : Nat) (cs : List Cell) : start0 n cs = cs ++ List.replicate (n - cs.length) .em := rfl
theorem forIt_nil (g : DTG) (b : DTS) (E : DEnds) (δ : DS) : forIt g b [] E δ = E.nx δ := rfl
theorem forIt_cons (g : DTG) (b : DTS) (x : PyData) (xs : List PyData) (E : DEnds) (δ : DS) : forIt g b (x :: xs) E δ = (g x δ fun δ1 => b { nx := forIt g b xs E, rt := E.rt, bk := E.nx, ct := forIt g b xs E } δ1) := rfl
theorem compIt_nil (g : DTG) (t : DT) (e : DE) (vs : List Nat) (acc : List PyData) (δ : DS) (R : List PyData → DS → Prop) : compIt g t e vs [] acc δ R = R acc δ := rfl
theorem compIt_cons (g : DTG) (t : DT) (e : DE) (vs : List Nat) (x : PyData) (xs acc : List PyData) (δ : DS) (R : List PyData → DS → Prop) : compIt g t e vs (x :: xs) acc δ R =
  (g x δ fun δ1 => t δ1 fun b δ2 => if b = true then e δ2 fun o δ3 => lk o δ3 fun y δ4 => compIt g t e vs xs (acc ++ [y]) (wipeD δ4 vs) R else compIt g t e vs xs acc (wipeD δ2 vs) R) := rfl
theorem for_inv {g : DTG} {b : DTS} {xs : List PyData} {δ : DS} {E : DEnds} {u : Stop E} (P : List PyData → DS → Prop) (Q : DS → Prop) (Z : PyData → DS → Prop) (h : P xs δ) (h0 : ∀ δ, P [] δ → E.nx δ) (hq : ∀ δ, Q δ → E.nx δ) (hz : ∀ x δ, Z x δ → E.rt x δ)
    (hs : ∀ x xs δ, P (x :: xs) δ → ∀ (K B : DS → Prop) (T : PyData → DS → Prop), (∀ δ', P xs δ' → K δ') → (∀ δ', Q δ' → B δ') → (∀ x δ', Z x δ' → T x δ') → g x δ fun δ1 => b { nx := K, rt := T, bk := B, ct := K } δ1) : forC g b xs δ E u := by
  show forIt g b xs E δ
  induction xs generalizing δ with
  | nil => exact h0 δ h
  | cons x xs ih => exact hs x xs δ h _ _ _ (fun δ' p => ih p) hq hz
theorem com_inv {g : DTG} {t : DT} {e : DE} {vs : List Nat} {xs acc : List PyData} {δ : DS} {R : List PyData → DS → Prop} {u : Stop R} (P : List PyData → List PyData → DS → Prop) (h : P xs acc δ) (h0 : ∀ acc δ, P [] acc δ → R acc δ)
    (hs : ∀ x xs acc δ, P (x :: xs) acc δ → ∀ K : List PyData → DS → Prop, (∀ acc' δ', P xs acc' δ' → K acc' δ') → g x δ fun δ1 => t δ1 fun b δ2 => if b = true then e δ2 fun o δ3 => lk o δ3 fun y δ4 => K (acc ++ [y]) (wipeD δ4 vs) else K acc (wipeD δ2 vs)) : comC g t e vs xs acc δ R u := by
  show compIt g t e vs xs acc δ R
  induction xs generalizing acc δ with
  | nil => exact h0 acc δ h
  | cons x xs ih => exact hs x xs acc δ h (fun acc' δ' => compIt g t e vs xs acc' δ' R) fun acc' δ' p => ih p
/-- each item by a function of its own; the slots stay -/
theorem com_fn {g : DTG} {t : DT} {e : DE} {vs : List Nat} {xs : List PyData} {δ : DS} {R : List PyData → DS → Prop} {u : Stop R} (f : PyData → Option PyData)
    (hs : ∀ x ∈ xs, ∀ (acc : List PyData) (K : List PyData → DS → Prop), K (acc ++ (f x).toList) δ → g x δ fun δ1 => t δ1 fun b δ2 => if b = true then e δ2 fun o δ3 => lk o δ3 fun y δ4 => K (acc ++ [y]) (wipeD δ4 vs) else K acc (wipeD δ2 vs)) (k : R (xs.filterMap f) δ) : comC g t e vs xs [] δ R u := by
  refine com_inv (fun ys acc δ' => δ' = δ ∧ (∀ x ∈ ys, x ∈ xs) ∧ acc ++ ys.filterMap f = xs.filterMap f) ⟨rfl, fun _ h => h, rfl⟩ ?_ ?_
  · rintro acc δ' ⟨rfl, _, h⟩
    have h' : acc = xs.filterMap f := by simpa using h
    rw [h']; exact k
  · rintro x ys acc δ' ⟨rfl, hm, h⟩ K hK
    refine hs x (hm x (List.mem_cons_self ..)) acc K (hK _ _ ⟨rfl, fun y hy => hm y (List.mem_cons_of_mem _ hy), ?_⟩)
    rw [← h, List.filterMap_cons]
    cases f x <;> simp
/-- each item by one of many -/
theorem com_any {g : DTG} {t : DT} {e : DE} {vs : List Nat} {xs : List PyData} {δ : DS} {R : List PyData → DS → Prop} {u : Stop R} (Q : PyData → Prop)
    (hs : ∀ x ∈ xs, ∀ (acc : List PyData) (K : List PyData → DS → Prop), (∀ y, Q y → K (acc ++ [y]) δ) → g x δ fun δ1 => t δ1 fun b δ2 => if b = true then e δ2 fun o δ3 => lk o δ3 fun y δ4 => K (acc ++ [y]) (wipeD δ4 vs) else K acc (wipeD δ2 vs)) (k : ∀ ys, ys.length = xs.length → (∀ y ∈ ys, Q y) → R ys δ) : comC g t e vs xs [] δ R u := by
  refine com_inv (fun ys acc δ' => δ' = δ ∧ (∀ x ∈ ys, x ∈ xs) ∧ (∀ y ∈ acc, Q y) ∧ acc.length + ys.length = xs.length) ⟨rfl, fun _ h => h, by simp, by simp⟩ ?_ ?_
  · rintro acc δ' ⟨rfl, _, h, hl⟩
    exact k acc (by simpa using hl) h
  · rintro x ys acc δ' ⟨rfl, hm, h, hl⟩ K hK
    refine hs x (hm x (List.mem_cons_self ..)) acc K fun y qy => hK _ _ ⟨rfl, fun y hy => hm y (List.mem_cons_of_mem _ hy), fun z hz => ?_, by simp at hl ⊢; omega⟩
    rcases List.mem_append.mp hz with q | q
    · exact h z q
    · rw [List.mem_singleton.mp q]; exact qy
theorem ints_of : ∀ {ys : List PyData} {P : Int → Prop}, (∀ y ∈ ys, ∃ i, y = .int i ∧ P i) → ∃ ns : List Int, ys = ns.map PyData.int ∧ ∀ i ∈ ns, P i
  | [], _, _ => ⟨[], rfl, by simp⟩
  | y :: ys, P, h => by
    obtain ⟨i, rfl, hi⟩ := h y (List.mem_cons_self ..)
    obtain ⟨ns, rfl, hn⟩ := ints_of (ys := ys) fun z hz => h z (List.mem_cons_of_mem _ hz)
    exact ⟨i :: ns, rfl, fun j hj => by
      rcases List.mem_cons.mp hj with q | q
      · rw [q]; exact hi
      · exact hn j q⟩
/-- .. that are numbers -/
theorem com_ints {g : DTG} {t : DT} {e : DE} {vs : List Nat} {xs : List PyData} {δ : DS} {R : List PyData → DS → Prop} {u : Stop R} (P : Int → Prop)
    (hs : ∀ x ∈ xs, ∀ (acc : List PyData) (K : List PyData → DS → Prop), (∀ i, P i → K (acc ++ [.int i]) δ) → g x δ fun δ1 => t δ1 fun b δ2 => if b = true then e δ2 fun o δ3 => lk o δ3 fun y δ4 => K (acc ++ [y]) (wipeD δ4 vs) else K acc (wipeD δ2 vs)) (k : ∀ ns : List Int, ns.length = xs.length → (∀ i ∈ ns, P i) → R (ns.map PyData.int) δ) : comC g t e vs xs [] δ R u :=
  com_any (fun y => ∃ i, y = .int i ∧ P i) (fun x hx acc K hK => hs x hx acc K fun i hi => hK _ ⟨i, rfl, hi⟩) fun ys hl hy => by
    obtain ⟨ns, rfl, hn⟩ := ints_of hy
    exact k ns (by simpa using hl) hn
omit [Tb] in
@[simp ↓] theorem pEq_ii (i j : Int) (R : PyData → Prop) : pEq (.int i) (.int j) R = R (.bool (decide (i = j))) := by
  unfold pEq; simp [sc2, PyData.eqv]; rfl
omit [Tb] in
@[simp ↓] theorem pEq_ss (i j : Str) (R : PyData → Prop) : pEq (.str i) (.str j) R = R (.bool (decide (i = j))) := by
  unfold pEq; simp [sc2, PyData.eqv]
  have : (i == j) = decide (i = j) := by rw [Bool.eq_iff_iff]; simp
  rw [this]
omit [Tb] in
@[simp ↓] theorem pEq_bb (i j : Bool) (R : PyData → Prop) : pEq (.bool i) (.bool j) R = R (.bool (i == j)) := by
  unfold pEq; simp [sc2, PyData.eqv]
omit [Tb] in
@[simp ↓] theorem pEq_tt (xs ys : List PyData) (R : PyData → Prop) : pEq (.tuple xs) (.tuple ys) R = (SeqAt.shaped (.tuple xs) = true ∧ SeqAt.shaped (.tuple ys) = true ∧ R (.bool (PyData.eqvAll xs ys))) := by
  unfold pEq; simp [sc2, PyData.eqv, and_assoc]
omit [Tb] in
@[simp ↓] theorem pEq_ll (xs ys : List PyData) (R : PyData → Prop) : pEq (.list xs) (.list ys) R = (SeqAt.shaped (.list xs) = true ∧ SeqAt.shaped (.list ys) = true ∧ R (.bool (PyData.eqvAll xs ys))) := by
  unfold pEq; simp [sc2, PyData.eqv, and_assoc]
omit [Tb] in
@[simp ↓] theorem pNe_ii (i j : Int) (R : PyData → Prop) : pNe (.int i) (.int j) R = R (.bool (!decide (i = j))) := by
  unfold pNe; simp [sc2, PyData.eqv]; rfl
omit [Tb] in
@[simp ↓] theorem pNe_ss (i j : Str) (R : PyData → Prop) : pNe (.str i) (.str j) R = R (.bool (!decide (i = j))) := by
  unfold pNe; simp [sc2, PyData.eqv]
  have : (i == j) = decide (i = j) := by rw [Bool.eq_iff_iff]; simp
  simp only [bne, this]
omit [Tb] in
@[simp ↓] theorem pNe_bb (i j : Bool) (R : PyData → Prop) : pNe (.bool i) (.bool j) R = R (.bool (!(i == j))) := by
  unfold pNe; simp [sc2, PyData.eqv]
omit [Tb] in
@[simp ↓] theorem pNe_tt (xs ys : List PyData) (R : PyData → Prop) : pNe (.tuple xs) (.tuple ys) R = (SeqAt.shaped (.tuple xs) = true ∧ SeqAt.shaped (.tuple ys) = true ∧ R (.bool (!PyData.eqvAll xs ys))) := by
  unfold pNe; simp [sc2, PyData.eqv, and_assoc]
omit [Tb] in
@[simp ↓] theorem pNe_ll (xs ys : List PyData) (R : PyData → Prop) : pNe (.list xs) (.list ys) R = (SeqAt.shaped (.list xs) = true ∧ SeqAt.shaped (.list ys) = true ∧ R (.bool (!PyData.eqvAll xs ys))) := by
  unfold pNe; simp [sc2, PyData.eqv, and_assoc]
end DL
set_option Elab.async false
set_option linter.all false
set_option maxRecDepth 100000
set_option maxHeartbeats 4000000
namespace DL
open PySem PySem.Spec PyProof.Rows L2
variable [Tb]

/-! ### own objects set apart -/
section
variable {K : PySem.W.Frag} {B B0 G H : Hp} {δ : DS} {σ : L2.St}
theorem Rel.less (R : Rel K B G δ σ H) (h : ∀ a, B0 a = B a ∨ B0 a = none) : Rel K B0 G δ σ H := by
  refine ⟨R.len, R.sg, fun a o e => ?_, fun a => ?_, R.ok, R.ap, fun i c a e m => ?_, R.tt⟩
  · rcases h a with z | z
    · rw [z] at e; exact R.sb _ _ e
    · rw [z] at e; cases e
  · rcases h a with z | z
    · rw [z]; exact R.dj a
    · exact .inr z
  · obtain ⟨f1, f2⟩ := R.fr i c a e m
    refine ⟨f1, ?_⟩
    rcases h a with z | z
    · rw [z]; exact f2
    · exact z
theorem Rel.more {l : List Addr} (R : Rel K B G δ σ H) (hg : ∀ a ∈ l, G a = none) (hc : ∀ (i : Nat) (c : Cell) (a : Addr), δ[i]? = some c → a ∈ c.fp → a ∉ l) : Rel K (bov B H l) G δ σ H := by
  refine ⟨R.len, R.sg, fun a o e => ?_, fun a => ?_, R.ok, R.ap, fun i c a e m => ?_, R.tt⟩
  · unfold bov at e
    split at e
    · exact e
    · exact R.sb _ _ e
  · unfold bov
    split
    · rename_i hm; exact .inl (hg a hm)
    · exact R.dj a
  · obtain ⟨f1, f2⟩ := R.fr i c a e m
    refine ⟨f1, ?_⟩
    unfold bov
    rw [if_neg (hc i c a e m)]; exact f2
end

/-! ### promises of a thing of one's own -/
abbrev DSpM := List Cell → (Cell → List Cell → Prop) → Prop
def liftM (K : PySem.W.Frag) (sp : DSpM) : Sp := fun vs H Q _ => ∃ B G cs R, Rel K B G cs (vs.map some) H ∧ sp cs R ∧ ∀ v H' G' c cs', R c cs' → Same G G' → Rel K (bov B H' c.fp) G' cs' (vs.map some) H' → (∀ a ∈ c.fp, B a = none) → CellOk K G' H' c (some v) → Q v H'
def wCallM (m : List Bool) (sp : DSpM) (w : DA) : DM := fun δ R => w δ fun os δ1 => lkM m os δ1 fun os' δ2 => (slotsOf os').Nodup ∧ sp (os'.map (cellOf δ2)) fun c cs => R c (putBack os' cs δ2)
def askM (sp : DSpM) (cs : List Cell) (R : Cell → List Cell → Prop) (_u : Stop R) : Prop := sp cs R
omit [Tb] in
@[simp ↓] theorem wCallM_ap (m : List Bool) (sp : DSpM) (w : DA) (δ : DS) (R : Cell → DS → Prop) : wCallM m sp w δ R = (w δ fun os δ1 => lkM m os δ1 fun os' δ2 => (slotsOf os').Nodup ∧ askM sp (os'.map (cellOf δ2)) (fun c cs => R c (putBack os' cs δ2)) .mk) := rfl
section
variable {X : Cx} {k : Nat} {f : Addr} {fd : FuncData} {ps : List Str} {x : Str} {p pos : Pos} {e : Expr} {es : List Expr}
theorem jm_call {m : List Bool} {sp : DSpM} {w : DA} (F : FnG X.prog X.w X.K X.mg X.base CX0 k f fd ps (liftM X.K sp)) (hr : RoomG k X.A) (hg : Gl X x) (hm : X.mg x = some (.ref f)) (hk : PySem.W.keepIn X.K (.ref f) = true) (hb : Binds X.K fd ps [])
    (ha : JA X (e :: es) w) (hdb : (x == ("__debug__" : Str)) = false := by decide) (he : starEach (e :: es) X.env = (false, eval e X.env) :: starEach es X.env := by rfl) (hpl : (backTo pos (starEach es X.env)).any (·.1) = false := by rfl) : JM X (.Call (.Name x p) (e :: es) [] pos) (wCallM m sp w) :=
  pe_le (pe_callG (E := E0) F hr hg hm hk hb pass0 ha hdb he hpl) fun pins s σ H Q I ⟨B, G, δ, R, rel, hw, k⟩ => ⟨B, G, δ, _, rel, hw, fun vs H1 G1 os δ1 r1 s1 rel1 ok1 => by
    obtain ⟨G2, δ2, os', ⟨nd, q⟩, s2, rel2, ok2⟩ := lkM_ok rel1 ok1 r1
    rw [List.append_nil]
    refine ⟨_, G2, _, _, call_rel rel2 ok2 nd, q, fun v H' G' c cs r s3 rel3 hB okc => ?_⟩
    have low : Rel X.K (hold B H1 δ2 (slotsOf os')) G' cs (vs.map some) H' := rel3.less fun a => by
      unfold bov
      split
      · rename_i hm; exact .inr (hB a hm)
      · exact .inl rfl
    have rel4 := call_back rel2 ok2 nd s3 low
    have hlen : os'.length = cs.length := by rw [← opds_len ok2, ← low.len, List.length_map]
    have tr : ∀ a ∈ c.fp, ∃ o, H' a = some o := fun a m => cell_tr okc m
    have hB0 : ∀ a ∈ c.fp, B a = none := fun a m => by
      have z := hB a m
      by_cases h : ∃ i c, δ2[i]? = some c ∧ a ∈ c.fp ∧ i ∉ slotsOf os'
      · obtain ⟨i, c', h1, h2, _⟩ := h
        exact (rel2.fr i c' a h1 h2).2
      · rw [hold_out h] at z; exact z
    have hG : ∀ a ∈ c.fp, G' a = none := fun a m => by
      rcases rel3.dj a with z | z
      · exact z
      · unfold bov at z
        rw [if_pos m] at z
        obtain ⟨o, eo⟩ := tr a m
        rw [eo] at z; cases z
    refine k v H' G' c _ r (s1.trans (s2.trans s3)) (rel4.more hG fun i c' a e m ma => ?_) hB0 okc
    rcases putBack_at hlen nd e with ⟨h1, h2⟩ | ⟨j, h1, h2⟩
    · have z := hB a ma
      rw [hold_in ⟨i, c', h2, m, h1⟩] at z
      obtain ⟨o, eo⟩ := rel2.tr h2 m
      rw [eo] at z; cases z
    · obtain ⟨_, f2⟩ := rel3.fr j c' a h2 m
      unfold bov at f2
      rw [if_pos ma] at f2
      obtain ⟨o, eo⟩ := tr a ma
      rw [eo] at f2; cases f2⟩
end

/-! ### _law_deck -/
def spDeck : DSpM := fun cs R => ∃ a ns, cs = [.scr a ns] ∧ ∀ p b c, R (.dk p b c) [.scr a ns]
/-- script[:63] -/
def wCut (i : Nat) : DE := fun δ R => ∃ a ns, δ[i]? = some (.scr a ns) ∧ R (.d (.list ((ns.take 63).map PyData.int))) δ
omit [Tb] in
@[simp ↓] theorem wCut_ap (i : Nat) (δ : DS) (R : Opd → DS → Prop) : wCut i δ R = (∃ a ns, δ[i]? = some (.scr a ns) ∧ R (.d (.list ((ns.take 63).map PyData.int))) δ) := rfl
theorem cutV_take (xs : List V) (n : Nat) : cutV xs none (some (n : Int)) = xs.take n := by
  unfold cutV
  rw [HT.sIx_none, HT.sIx_nat]
  simp only [List.drop_zero, Nat.sub_zero]
  by_cases h : n ≤ xs.length
  · rw [Nat.min_eq_left h]
  · rw [Nat.min_eq_right (by omega), List.take_of_length_le (by omega), List.take_of_length_le (by omega)]
theorem je_cut {X : Cx} {i : Nat} {x : Str} {px p1 p2 pos : Pos} {k1} (h : PE X (.Name x px) (tVar i)) : JE X (.Subscript (.Name x px) (.Slice none (some (.Constant (.int 63) k1 p1)) none p2) pos) (wCut i) :=
  pe_le (pe_slice sl_list h po_none (po_some pe_int)) fun pins s σ H Q I ⟨B, G, δ, R, rel, ⟨a, ns, hδ, hw⟩, k⟩ => by
    obtain ⟨o, hσ, rfl, hq⟩ := rel.at hδ
    refine ⟨.ref a, hσ, 63, rfl, a, ns.map V.int, rfl, rel.sg.seq hq, fun p np => ?_⟩
    obtain ⟨rel3, s3⟩ := rel.laid (o := .lst (cutV (ns.map V.int) none (some 63))) np
    refine k _ _ _ _ _ hw s3 rel3 (Dn.lst upd_same ?_)
    rw [show (63 : Int) = ((63 : Nat) : Int) from rfl, cutV_take, ← List.map_take]
    exact DnL.ints _
def geT (w : DE) (u : DE) : DT := wB (wOp pGe w u)
def wDk1 : DTS := wSet 1 (mL (wComp (iSeq (wCut 0)) (gN 2) tT (wFn pAbs (wCons (wVar 2) wNil)) [2]))
def wDk2 : DMs := msCons (mL (wComp (iSeq (wVar 1)) (gN 2) (wB (wOp pGe (wVar 2) (wOp pPow (wC (.int 10)) (wC (.int 18))))) (wVar 2) [2]))
  (msCons (mL (wOpL pAddL (wVar 1) (wOfL (wLst (wCons (wOp pAdd (wC (.int 11228)) (wFn pLen (wCons (wVar 1) wNil))) wNil))))) (msCons (mE (wC (.int 0))) msNil))
theorem comp_abs {δ : DS} {R : List PyData → DS → Prop} {d0 d1 : Cell} (hd : δ = [d0, d1, .em]) (k : ∀ ms : List Int, ms.length ≤ 63 → R (ms.map PyData.int) δ) (ns : List Int) (hn : ns.length ≤ 63) :
    compIt (gN 2) tT (wFn pAbs (wCons (wVar 2) wNil)) [2] (ns.map PyData.int) [] δ R := by
  refine com_inv (u := .mk) (fun xs acc δ' => δ' = δ ∧ ∃ ns ms : List Int, xs = ns.map PyData.int ∧ acc = ms.map PyData.int ∧ ms.length + ns.length ≤ 63) ⟨rfl, ns, [], rfl, rfl, by simpa using hn⟩ ?_ ?_
  · rintro acc δ' ⟨rfl, ns, ms, h1, rfl, h3⟩
    exact k ms (by omega)
  · rintro x xs acc δ' ⟨rfl, ns, ms, h1, rfl, h3⟩ K ih
    cases ns with
    | nil => cases h1
    | cons n ns =>
      simp only [List.map_cons, List.cons.injEq] at h1
      obtain ⟨rfl, rfl⟩ := h1
      subst hd
      simp
      exact ih _ _ ⟨rfl, ns, ms ++ [if n < 0 then -n else n], rfl, by simp, by simp at h3 ⊢; omega⟩
theorem comp_ge {δ : DS} {R : List PyData → DS → Prop} {d0 d1 : Cell} (hd : δ = [d0, d1, .em]) (k : ∀ ms : List Int, (∀ x ∈ ms, 0 ≤ x) → R (ms.map PyData.int) δ) (ns : List Int) :
    compIt (gN 2) (wB (wOp pGe (wVar 2) (wOp pPow (wC (.int 10)) (wC (.int 18))))) (wVar 2) [2] (ns.map PyData.int) [] δ R := by
  refine com_inv (u := .mk) (fun xs acc δ' => δ' = δ ∧ ∃ ns ms : List Int, xs = ns.map PyData.int ∧ acc = ms.map PyData.int ∧ ∀ x ∈ ms, 0 ≤ x) ⟨rfl, ns, [], rfl, rfl, by simp⟩ ?_ ?_
  · rintro acc δ' ⟨rfl, ns, ms, h1, rfl, h3⟩
    exact k ms h3
  · rintro x xs acc δ' ⟨rfl, ns, ms, h1, rfl, h3⟩ K ih
    cases ns with
    | nil => cases h1
    | cons n ns =>
      simp only [List.map_cons, List.cons.injEq] at h1
      obtain ⟨rfl, rfl⟩ := h1
      subst hd
      simp [CPow]
      split
      · exact ih _ _ ⟨rfl, ns, ms ++ [n], rfl, by simp, fun x hx => by
          rcases List.mem_append.mp hx with q | q
          · exact h3 x q
          · rw [List.mem_singleton.mp q]; omega⟩
      · exact ih _ _ ⟨rfl, ns, ms, rfl, rfl, h3⟩
theorem ok_deck {P : Program} {w : World} {K : PySem.W.Frag} {mg : Str → Option Value} {base : Heap} {x qual : Str} {st : Stmt} {f : Addr} {fd : FuncData} {N ps : List Str} {k : Nat} {st1 : Stmt} {es : List Expr} {p1 p2 : Pos} (F : Fun K x qual st f fd) (S : FnScope N ps (defScope st)) (hN : N.length = 3) (hp : ps.length = 1)
    (hb : defBody st = [st1, .Return (some (.List es p1)) p2])
    (h1 : ∀ (cdv : Value) (A : Around) (outer : List Env) (s : Shared) (H : Hp) (E : XK), RoomG k (A.deeper (envOfC qual (defScope st) s.heap.objs.size f cdv)) → JS (cxOf CX0 P w K mg base N qual (defScope st) f cdv A outer s H E).nox st1 wDk1)
    (h2 : ∀ (cdv : Value) (A : Around) (outer : List Env) (s : Shared) (H : Hp) (E : XK), RoomG k (A.deeper (envOfC qual (defScope st) s.heap.objs.size f cdv)) → JMs (cxOf CX0 P w K mg base N qual (defScope st) f cdv A outer s H E).nox es wDk2) : FnG P w K mg base CX0 (k + 1) f fd ps (liftM K spDeck) := by
  obtain ⟨oc, od, kV, doc, pm, an, cdv, ct, osl, rfl, lk', hcd⟩ := F.ex
  refine fnG_of lk' hcd S (fun vs H Q E ⟨B, G, cs, R, rel, ⟨a, ns, e, _⟩, _⟩ => by have := rel.len; subst e; simp at this; omega) fun A outer s H vs Q E hr ⟨B, G, cs, R, rel, ⟨a, ns, e, hR⟩, kk⟩ => ?_
  subst e
  rw [hb]
  refine ⟨_, (pss_cons (h1 cdv A outer s H E hr) (pss_one (ps_ret (pe_lst (h2 cdv A outer s H E hr))))).nox, ?_⟩
  have e0 : start0 N.length [Cell.scr a ns] = [.scr a ns, .em, .em] := by rw [hN]; rfl
  refine ⟨B, G, [.scr a ns, .em, .em], { nx := fun δ => ∃ q xs, δ = [.scr a ns, .ol q (xs.map PyData.int), .em] ∧ (xs : List Int).length ≤ 63, rt := fun _ _ => False }, e0 ▸ rel_start rel, ?_, ?_⟩
  · unfold wDk1
    simp
    refine ⟨a, ns, ⟨rfl, rfl⟩, ?_⟩
    rw [← List.map_take]
    exact comp_abs rfl (fun ms hm q => ⟨q, ms, by simp [hm]⟩) _ (by rw [List.length_take]; omega)
  · refine ⟨?_, fun _ _ _ _ _ _ h => h.elim, fun _ _ _ _ h => h.elim, fun _ _ _ _ h => h.elim⟩
    rintro σ1 H1 G1 δ1 ⟨q, xs, rfl, hx⟩ s1 rel1
    refine ⟨B, G1, _, fun cs δ => ∃ (q1 q2 : Addr) (ms ys : List Int) (d1 : Cell), cs = [.ol q1 (ms.map PyData.int), .ol q2 (ys.map PyData.int), .d (.int 0)] ∧ δ = [.scr a ns, d1, .em] ∧ (∀ x ∈ ms, (0 : Int) ≤ x) ∧ ys ≠ [], rel1, ?_, ?_⟩
    · unfold wDk2
      simp
      refine comp_ge rfl (fun ms hm q1 => ?_) _
      simp
      refine ⟨by omega, fun q2 => ⟨q1, q2, ms, xs ++ [11228 + (xs.length : Int)], ⟨⟨rfl, rfl⟩, rfl, by simp⟩, hm, by simp⟩⟩
    · rintro vs2 H2 G2 cs δ2 ⟨b, c, ms, ys, d1, rfl, rfl, hm, hy⟩ s2 rel2 hB2 ok2
      cases ok2 with
      | cons o1 n1 t1 =>
        cases t1 with
        | cons o2 n2 t2 =>
          cases t2 with
          | cons o3 n3 t3 =>
            cases t3
            obtain ⟨e1, w1, hb, t1⟩ := o1
            obtain ⟨e2, w2, hc, t2⟩ := o2
            obtain ⟨v3, e3, t3⟩ := o3
            cases e1
            cases e2
            cases e3
            obtain rfl := t1.toInts
            obtain rfl := t2.toInts
            obtain rfl := dn_int t3
            refine ⟨by show 3 ≤ sizeLine; rw [sizeLine_eq]; omega, fun p np => ?_⟩
            have bc : b ≠ c := fun e => n1 b (by simp [Cell.fp]) (by simp [fps, Cell.fp, e])
            have pb : p ≠ b := fun e => by rw [e, hb] at np; cases np
            have pc : p ≠ c := fun e => by rw [e, hc] at np; cases np
            have rel3 := rel_end rel (rel2.growB (o := .lst [.ref b, .ref c, .int 0]) np |>.less (B0 := B) fun a => ?_) (s1.trans s2) (show sameIo [Cell.scr a ns] _ from trivial)
            · have eb : (fps [Cell.ol b (ms.map PyData.int), Cell.ol c (ys.map PyData.int), Cell.d (.int 0)]) = [b, c] := rfl
              rw [eb] at rel2 hB2
              have hB : ∀ a ∈ [p, b, c], B a = none := fun a m => by
                rcases List.mem_cons.mp m with e | m
                · rw [e]
                  have z := rel2.freeB np
                  unfold bov at z
                  rw [if_neg (by simp [pb, pc])] at z; exact z
                · exact hB2 a m
              refine kk _ _ G2 (.dk p b c) _ (hR p b c) (s1.trans s2) (rel3.more (fun a m => ?_) ?_) hB ⟨rfl, pb, pc, bc, 0, ms, ys, upd_same, by rw [upd_ne pb.symm]; exact hb, by rw [upd_ne pc.symm]; exact hc, hy, hm⟩
              · rcases List.mem_cons.mp m with e | m
                · rw [e]; exact rel2.freeG np
                · rcases rel2.dj a with z | z
                  · exact z
                  · unfold bov at z
                    rw [if_pos m] at z
                    have m' : a = b ∨ a = c := by simpa using m
                    rcases m' with rfl | rfl
                    · rw [hb] at z; cases z
                    · rw [hc] at z; cases z
              · intro i c' a' e m
                have : c' = .scr a ns := by
                  cases i with
                  | zero => simp [outC] at e; exact e.symm
                  | succ i => simp [outC] at e
                rw [this] at m; cases m
            · by_cases h : a = p
              · refine .inr ?_
                rw [h]
                have z := rel2.freeB np
                unfold bov at z
                split at z
                · rename_i hm2
                  rw [z] at np
                  have : H2 p = none := z
                  rcases (show p = b ∨ p = c by simpa [fps, Cell.fp] using hm2) with e | e
                  · exact absurd e pb
                  · exact absurd e pc
                · exact z
              · rw [upd_ne h]
                unfold bov
                split
                · rename_i hm2
                  exact .inr (hB2 a hm2)
                · exact .inl rfl
end DL
set_option Elab.async false
set_option linter.all false
set_option maxRecDepth 100000
set_option maxHeartbeats 4000000
namespace DL
open PySem PySem.Spec PyProof.Rows L2
variable [Tb]

section
variable {K : PySem.W.Frag} {B G H : Hp} {δ : DS} {σ : L2.St}
theorem notTE_dT {ws : List (List Key × V)} : notTE (.dT ws) := ⟨fun _ z => (nomatch z), fun _ z => (nomatch z)⟩
theorem cell_te {c : Cell} {p : Addr} {o : Option V} (ok : CellOk K G H c o) (hc : p ∈ c.fp) : ∀ x, H p = some x → notTE x := by
  have one : ∀ {y : HO}, H p = some y → notTE y → ∀ x, H p = some x → notTE x := fun {y} e h x e2 => by
    rw [e] at e2
    cases e2
    exact h
  cases c with
  | em => cases hc
  | d x => cases hc
  | ol a xs =>
    obtain ⟨_, vs, e, _⟩ := ok
    rw [List.mem_singleton.mp hc] at one ⊢
    exact one e notTE_lst
  | dk a b c =>
    obtain ⟨_, _, _, _, n, xs, ys, e1, e2, e3, _⟩ := ok
    simp only [Cell.fp, List.mem_cons, List.not_mem_nil, or_false] at hc
    rcases hc with rfl | rfl | rfl
    · exact one e1 notTE_lst
    · exact one e2 notTE_lst
    · exact one e3 notTE_lst
  | scr a ns => cases hc
  | xc a cls d x => cases hc
  | od a kvs =>
    obtain ⟨_, ws, e, _⟩ := ok
    rw [List.mem_singleton.mp hc] at one ⊢
    exact one e notTE_dT
  | dx a b c xs n ys =>
    obtain ⟨_, _, _, _, e1, e2, e3⟩ := ok
    simp only [Cell.fp, List.mem_cons, List.not_mem_nil, or_false] at hc
    rcases hc with rfl | rfl | rfl
    · exact one e1 notTE_lst
    · exact one e2 notTE_lst
    · exact one e3 notTE_lst
/-- an object of a slot's thing is changed -/
theorem Rel.put {i : Nat} {c c' : Cell} {p : Addr} {o : HO} {ov : Option V} (R : Rel K B G δ σ H) (h : δ[i]? = some c) (hσ : σ[i]? = some ov) (hp : p ∈ c.fp) (hf : c'.fp = c.fp) (ok : CellOk K G (upd H p o) c' ov) : Rel K B G (δ.set i c') σ (upd H p o) := by
  obtain ⟨ga, ba⟩ := R.fr i _ p h hp
  have hi : i < δ.length := (List.getElem?_eq_some_iff.mp h).1
  have get : ∀ {j : Nat} {x : Cell}, (δ.set i c')[j]? = some x → (j = i ∧ x = c') ∨ (j ≠ i ∧ δ[j]? = some x) := fun {j x} e => by
    by_cases hj : j = i
    · subst hj
      rw [List.getElem?_set_self hi] at e; cases e; exact .inl ⟨rfl, rfl⟩
    · rw [List.getElem?_set_ne (Ne.symm hj)] at e; exact .inr ⟨hj, e⟩
  refine ⟨by simp [R.len], fun b x q => ?_, fun b x q => ?_, R.dj, fun j x w e1 e2 => ?_, fun j k x y z e1 e2 m1 m2 => ?_, fun j x z e1 m => ?_, tabs_upd R.tt (cell_te (R.ok i c _ h hσ) hp)⟩
  · rw [upd_ne (fun z => by rw [z, ga] at q; cases q)]; exact R.sg _ _ q
  · rw [upd_ne (fun z => by rw [z, ba] at q; cases q)]; exact R.sb _ _ q
  · rcases get e1 with ⟨rfl, rfl⟩ | ⟨hj, e1⟩
    · rw [hσ] at e2; cases e2; exact ok
    · refine (R.ok j x w e1 e2).stay (Same.refl _) fun b hb => upd_ne fun q => ?_
      rw [q] at hb
      exact hj (R.ap j i x _ p e1 h hb hp)
  · rcases get e1 with h1 | h1
    · obtain ⟨h1, e1'⟩ := h1
      rw [e1'] at m1
      rcases get e2 with ⟨h2, e3⟩ | ⟨h2, e3⟩
      · rw [h1, h2]
      · exact h1.trans (R.ap i k _ y z h e3 (by rw [← hf]; exact m1) m2)
    · rcases get e2 with ⟨h2, e3⟩ | ⟨h2, e3⟩
      · rw [e3] at m2
        exact (R.ap j i x _ z h1.2 h m1 (by rw [← hf]; exact m2)).trans h2.symm
      · exact R.ap j k x y z h1.2 e3 m1 m2
  · rcases get e1 with ⟨_, rfl⟩ | ⟨hj, e1⟩
    · exact R.fr i _ z h (by rw [← hf]; exact m)
    · exact R.fr j x z e1 m
/-- the deck is looked into, or closed -/
theorem Rel.swap {i : Nat} {c c' : Cell} {ov : Option V} (R : Rel K B G δ σ H) (h : δ[i]? = some c) (hσ : σ[i]? = some ov) (hf : c'.fp = c.fp) (ok : CellOk K G H c' ov) : Rel K B G (δ.set i c') σ H :=
  R.recell hσ ok fun a m => ⟨R.fr i c a h (by rw [← hf]; exact m), fun j x hj e m2 => hj (R.ap j i x c a e h m2 (by rw [← hf]; exact m))⟩
end

/-! ### the deck's parts -/
/-- deck[2] -/
def wK2 (i : Nat) : DE := fun δ R => ∃ a b c xs n ys, δ[i]? = some (.dx a b c xs n ys) ∧ R (.d (.int n)) δ
/-- deck[0][0] -/
def wK00 (i : Nat) : DE := fun δ R => ∃ a b c xs n ys x, δ[i]? = some (.dx a b c xs n ys) ∧ xs.head? = some x ∧ R (.d (.int x)) δ
/-- deck[0] != [] -/
def wKne (i : Nat) : DT := fun δ R => ∃ a b c xs n ys, δ[i]? = some (.dx a b c xs n ys) ∧ R (!xs.isEmpty) δ
/-- deck[1][e] -/
def wK1 (i : Nat) (w : DE) : DE := fun δ R => ∃ a b c xs n ys, δ[i]? = some (.dx a b c xs n ys) ∧ w δ fun o δ1 => use o δ1 fun d => ∃ j z, d = .int j ∧ δ1[i]? = some (.dx a b c xs n ys) ∧ atI ys j = some z ∧ R (.d (.int z)) δ1
/-- len(deck[1]) -/
def wKlen (i : Nat) : DE := fun δ R => ∃ a b c xs n ys, δ[i]? = some (.dx a b c xs n ys) ∧ R (.d (.int (ys.length : Nat))) δ
/-- deck[0][0] = e -/
def wPut00 (i : Nat) (w : DE) : DTS := fun E δ => w δ fun o δ1 => use o δ1 fun d => ∃ v a b c x xs n ys, d = .int v ∧ δ1[i]? = some (.dx a b c (x :: xs) n ys) ∧ E.nx (δ1.set i (.dx a b c (v :: xs) n ys))
/-- deck[0].pop(0) -/
def wPop0 (i : Nat) : DTS := fun E δ => ∃ a b c x xs n ys, δ[i]? = some (.dx a b c (x :: xs) n ys) ∧ E.nx (δ.set i (.dx a b c xs n ys))
/-- deck[2] = e -/
def wPut2 (i : Nat) (w : DE) : DTS := fun E δ => w δ fun o δ1 => use o δ1 fun d => ∃ v a b c xs n ys, d = .int v ∧ δ1[i]? = some (.dx a b c xs n ys) ∧ E.nx (δ1.set i (.dx a b c xs v ys))
def asX (c : Option Cell) (k : Addr → Addr → Addr → List Int → Int → List Int → Prop) : Prop := match c with
  | some (.dx a b c xs n ys) => k a b c xs n ys
  | _ => False
omit [Tb] in
@[simp ↓] theorem asX_x (a b c : Addr) (xs : List Int) (n : Int) (ys : List Int) (k : Addr → Addr → Addr → List Int → Int → List Int → Prop) : asX (some (.dx a b c xs n ys)) k = k a b c xs n ys := rfl
theorem ex_x (c : Option Cell) (k : Addr → Addr → Addr → List Int → Int → List Int → Prop) : (∃ p q r xs n ys, c = some (.dx p q r xs n ys) ∧ k p q r xs n ys) = asX c k := by
  cases c with
  | none => simp [asX]
  | some c =>
    cases c with
    | dx p q r xs n ys =>
      refine propext ⟨fun ⟨_, _, _, _, _, _, e, h⟩ => ?_, fun h => ⟨_, _, _, _, _, _, rfl, h⟩⟩
      cases e; exact h
    | _ => simp [asX]
def head1 (xs : List Int) (k : Int → List Int → Prop) : Prop := match xs with
  | x :: r => k x r
  | [] => False
omit [Tb] in
@[simp] theorem head1_c (x : Int) (xs : List Int) (k : Int → List Int → Prop) : head1 (x :: xs) k = k x xs := rfl
omit [Tb] in
@[simp ↓] theorem wK2_ap (i : Nat) (δ : DS) (R : Opd → DS → Prop) : wK2 i δ R = asX δ[i]? fun a b c xs n ys => R (.d (.int n)) δ := by
  rw [← ex_x]; rfl
omit [Tb] in
@[simp ↓] theorem wK00_ap (i : Nat) (δ : DS) (R : Opd → DS → Prop) : wK00 i δ R = asX δ[i]? fun a b c xs n ys => head1 xs fun x _ => R (.d (.int x)) δ := by
  rw [← ex_x]
  refine propext ⟨fun ⟨a, b, c, xs, n, ys, x, h, h2, q⟩ => ⟨a, b, c, xs, n, ys, h, ?_⟩, fun ⟨a, b, c, xs, n, ys, h, q⟩ => ?_⟩
  · cases xs with
    | nil => cases h2
    | cons y r => cases h2; exact q
  · cases xs with
    | nil => exact q.elim
    | cons y r => exact ⟨a, b, c, _, n, ys, y, h, rfl, q⟩
omit [Tb] in
@[simp ↓] theorem wKne_ap (i : Nat) (δ : DS) (R : Bool → DS → Prop) : wKne i δ R = asX δ[i]? fun a b c xs n ys => R (!xs.isEmpty) δ := by
  rw [← ex_x]; rfl
omit [Tb] in
@[simp ↓] theorem wK1_ap (i : Nat) (w : DE) (δ : DS) (R : Opd → DS → Prop) : wK1 i w δ R = asX δ[i]? fun a b c xs n ys => w δ fun o δ1 => use o δ1 fun d => asI d (fun j => δ1[i]? = some (.dx a b c xs n ys) ∧ onS (atI ys j) (fun z => R (.d (.int z)) δ1) .mk) .mk := by
  rw [← ex_x]; simp only [← ex_int, ← ex_some, ← exists_and_left]; rfl
omit [Tb] in
@[simp ↓] theorem wKlen_ap (i : Nat) (δ : DS) (R : Opd → DS → Prop) : wKlen i δ R = asX δ[i]? fun a b c xs n ys => R (.d (.int (ys.length : Nat))) δ := by
  rw [← ex_x]; rfl
omit [Tb] in
@[simp ↓] theorem wPut00_ap (i : Nat) (w : DE) (E : DEnds) (δ : DS) : wPut00 i w E δ = (w δ fun o δ1 => use o δ1 fun d => asI d (fun v => asX δ1[i]? fun a b c xs n ys => head1 xs fun _ r => E.nx (δ1.set i (.dx a b c (v :: r) n ys))) .mk) := by
  unfold wPut00
  simp only [← ex_x, ← ex_int]
  congr 1; funext o δ1; congr 1; funext d
  refine propext ⟨fun ⟨v, a, b, c, x, xs, n, ys, h0, h, q⟩ => ⟨v, h0, a, b, c, _, n, ys, h, q⟩, fun ⟨v, h0, a, b, c, xs, n, ys, h, q⟩ => ?_⟩
  cases xs with
  | nil => exact q.elim
  | cons y r => exact ⟨v, a, b, c, y, r, n, ys, h0, h, q⟩
omit [Tb] in
@[simp ↓] theorem wPop0_ap (i : Nat) (E : DEnds) (δ : DS) : wPop0 i E δ = asX δ[i]? fun a b c xs n ys => head1 xs fun _ r => E.nx (δ.set i (.dx a b c r n ys)) := by
  rw [← ex_x]
  refine propext ⟨fun ⟨a, b, c, x, xs, n, ys, h, q⟩ => ⟨a, b, c, _, n, ys, h, q⟩, fun ⟨a, b, c, xs, n, ys, h, q⟩ => ?_⟩
  cases xs with
  | nil => exact q.elim
  | cons y r => exact ⟨a, b, c, y, r, n, ys, h, q⟩
omit [Tb] in
@[simp ↓] theorem wPut2_ap (i : Nat) (w : DE) (E : DEnds) (δ : DS) : wPut2 i w E δ = (w δ fun o δ1 => use o δ1 fun d => asI d (fun v => asX δ1[i]? fun a b c xs n ys => E.nx (δ1.set i (.dx a b c xs v ys))) .mk) := by
  unfold wPut2
  simp only [← ex_x, ← ex_int]
  congr 1; funext o δ1; congr 1; funext d
  exact propext ⟨fun ⟨v, a, b, c, xs, n, ys, h0, h, q⟩ => ⟨v, h0, a, b, c, xs, n, ys, h, q⟩, fun ⟨v, h0, a, b, c, xs, n, ys, h, q⟩ => ⟨v, a, b, c, xs, n, ys, h0, h, q⟩⟩
section
variable {X : Cx} {i : Nat} {x : Str} {px pos p1 p2 p3 p4 p5 : Pos} {k1 k2 : Nat}
theorem atI_map {α β : Type} (f : α → β) (xs : List α) (j : Int) : atI (xs.map f) j = (atI xs j).map f := by
  unfold atI
  rw [List.length_map]
  cases ixN xs.length j with
  | none => rfl
  | some k => simp
theorem je_k2 (h : PE X (.Name x px) (tVar i)) : JE X (.Subscript (.Name x px) (.Constant (.int 2) k1 p1) pos) (wK2 i) :=
  pe_le (pe_ix ix_list h pe_int (fun _ _ => rfl)) fun pins s σ H Q I ⟨B, G, δ, R, rel, ⟨a, b, c, xs, n, ys, hδ, hw⟩, k⟩ => by
    obtain ⟨o, hσ, rfl, h1, h2, h3, e1, e2, e3⟩ := rel.at hδ
    exact ⟨.ref a, hσ, a, _, 2, .int n, rfl, rfl, SqL.of e1, rfl, k _ H G _ δ hw (Same.refl _) rel (Dn.int _)⟩
theorem je_k00 (h : PE X (.Name x px) (tVar i)) : JE X (.Subscript (.Subscript (.Name x px) (.Constant (.int 0) k1 p1) p2) (.Constant (.int 0) k2 p3) pos) (wK00 i) :=
  pe_le (pe_ix ix_list (pe_ix ix_list h pe_int (fun _ _ => rfl)) pe_int (fun _ _ => rfl)) fun pins s σ H Q I ⟨B, G, δ, R, rel, ⟨a, b, c, xs, n, ys, x, hδ, hx, hw⟩, k⟩ => by
    obtain ⟨o, hσ, rfl, h1, h2, h3, e1, e2, e3⟩ := rel.at hδ
    cases xs with
    | nil => cases hx
    | cons y xs =>
      cases hx
      exact ⟨.ref a, hσ, a, _, 0, .ref b, rfl, rfl, SqL.of e1, rfl, b, _, 0, .int x, rfl, rfl, SqL.of e2, by simp [atI, ixN], k _ H G _ δ hw (Same.refl _) rel (Dn.int _)⟩
theorem je_k1 {e : Expr} {w : DE} (h : PE X (.Name x px) (tVar i)) (he : JE X e w) (hs : PlainIx e) : JE X (.Subscript (.Subscript (.Name x px) (.Constant (.int 1) k1 p1) p2) e pos) (wK1 i w) :=
  pe_le (pe_ix ix_list (pe_ix ix_list h pe_int (fun _ _ => rfl)) he hs) fun pins s σ H Q I ⟨B, G, δ, R, rel, ⟨a, b, c, xs, n, ys, hδ, hw⟩, k⟩ => by
    obtain ⟨o, hσ, rfl, h1, h2, h3, e1, e2, e3⟩ := rel.at hδ
    refine ⟨.ref a, hσ, a, _, 1, .ref c, rfl, rfl, SqL.of e1, rfl, B, G, δ, _, rel, hw, fun v H1 G1 o δ1 r1 s1 rel1 ok1 => ?_⟩
    obtain ⟨d, ⟨j, z, rfl, hδ1, hz, q⟩, bd⟩ := use_ok rel1 ok1 r1
    obtain ⟨o', hσ', e', h1', h2', h3', e1', e2', e3'⟩ := rel1.at hδ1
    exact ⟨c, _, j, .int z, rfl, bor_int bd, SqL.of e3', by rw [atI_map, hz]; rfl, k _ H1 G1 _ δ1 q s1 rel1 (Dn.int _)⟩
theorem je_klen {xl : Str} {pl : Pos} (hg : Gl X xl) (hm : X.mg xl = none) (hv : bootBuiltins xl = some (.builtin "len")) (h : PE X (.Name x px) (tVar i)) (hn : xl ≠ "__name__" := by decide) (hdb : (xl == ("__debug__" : Str)) = false := by decide)
    (he : starEach [.Subscript (.Name x px) (.Constant (.int 1) k1 p1) p2] X.env = (false, eval (.Subscript (.Name x px) (.Constant (.int 1) k1 p1) p2) X.env) :: starEach [] X.env := by rfl) :
    JE X (.Call (.Name xl pl) [.Subscript (.Name x px) (.Constant (.int 1) k1 p1) p2] [] pos) (wKlen i) :=
  pe_le (pe_callB call_len hg hm hv (pa_cons (pe_ix ix_list h pe_int (fun _ _ => rfl)) pa_nil he) hn hdb he rfl) fun pins s σ H Q I ⟨B, G, δ, R, rel, ⟨a, b, c, xs, n, ys, hδ, hw⟩, k⟩ => by
    obtain ⟨o, hσ, rfl, h1, h2, h3, e1, e2, e3⟩ := rel.at hδ
    exact ⟨.ref a, hσ, a, _, 1, .ref c, rfl, rfl, SqL.of e1, rfl, _, _, rfl, .inl ⟨_, SqL.of e3, by simp⟩, k _ H G _ δ hw (Same.refl _) rel (Dn.int _)⟩
theorem dp_ints {K : PySem.W.Frag} {H : Hp} {a : Addr} {xs : List Int} (h : H a = some (.lst (xs.map V.int))) : Dp K H (.ref a) (.list (xs.map PyData.int)) :=
  .lst (SqL.of h) (by
    induction xs with
    | nil => exact .nil
    | cons x xs ih => exact .cons (.int _) (by
        clear h
        clear ih
        induction xs with
        | nil => exact .nil
        | cons x xs ih => exact .cons (.int _) ih))
theorem canLay_ints : ∀ xs : List Int, PyData.canLayAll0 (xs.map PyData.int) = true
  | [] => by simp [PyData.canLayAll0]
  | x :: xs => by simp [PyData.canLayAll0, PyData.canLay0, canLay_ints xs]
theorem depth_ints : ∀ xs : List Int, PyData.depthAll (xs.map PyData.int) = 0
  | [] => by simp [PyData.depthAll]
  | x :: xs => by simp [PyData.depthAll, PyData.depth, depth_ints xs]
theorem shaped_ints (xs : List Int) : SeqAt.shaped (.list (xs.map PyData.int)) = true := by
  simp [SeqAt.shaped, PyData.canLay0, PyData.depth, canLay_ints, depth_ints]
theorem shaped_intsT (xs : List Int) : SeqAt.shaped (.tuple (xs.map PyData.int)) = true := by
  simp [SeqAt.shaped, PyData.canLay0, PyData.depth, canLay_ints, depth_ints]
theorem eqv_nil (xs : List Int) : PyData.eqv (.list (xs.map PyData.int)) (.list []) = xs.isEmpty := by
  cases xs <;> simp [PyData.eqv, PyData.eqvAll]
theorem jt_kne (hu : X.A.units + 64 < cLine) (h : PE X (.Name x px) (tVar i)) (hm : behindInMarks .NotEq (.List [] p3) = false := by rfl) : JT X (.Compare (.Subscript (.Name x px) (.Constant (.int 0) k1 p1) p2) [.NotEq] [.List [] p3] pos) (wKne i) :=
  pt_le (pt_cmpR (op_neD hu) (pe_ix ix_list h pe_int (fun _ _ => rfl)) (pe_lst pa_nil) hm) fun pins s σ H Q I ⟨B, G, δ, R, rel, ⟨a, b, c, xs, n, ys, hδ, hw⟩, k⟩ => by
    obtain ⟨o, hσ, rfl, h1, h2, h3, e1, e2, e3⟩ := rel.at hδ
    refine ⟨.ref a, hσ, a, _, 0, .ref b, rfl, rfl, SqL.of e1, rfl, Nat.zero_le _, fun p np => ?_⟩
    have hb : (upd H p (.lst [])) b = some (.lst (xs.map V.int)) := by rw [upd_ne (ne_of_none e2 np)]; exact e2
    refine ⟨_, .list [], dp_ints hb, .lst (SqL.of upd_same) .nil, shaped_ints xs, by decide, _, rfl, ?_⟩
    rw [eqv_nil]
    exact k _ _ G δ hw (Same.refl _) (rel.grow np)
theorem js_put00 {e : Expr} {w : DE} {pt : Pos} (h : PE X (.Name x px) (tVar i)) (he : JE X e w) (hs : swapsWithSole [.Subscript (.Subscript (.Name x px) (.Constant (.int 0) k1 p1) p2) (.Constant (.int 0) k2 p3) pt] e pos.line X.env = pure false := by rfl) (hw : swappedStores [.Subscript (.Subscript (.Name x px) (.Constant (.int 0) k1 p1) p2) (.Constant (.int 0) k2 p3) pt] e X.env = pure none := by rfl) :
    JS X (.Assign [.Subscript (.Subscript (.Name x px) (.Constant (.int 0) k1 p1) p2) (.Constant (.int 0) k2 p3) pt] e pos) (wPut00 i w) :=
  ps_le (ps_asg he (pg_sub (pe_ix ix_list h pe_int (fun _ _ => rfl)) pe_int set_list) hs hw) fun pins s σ H D I ⟨B, G, δ, E, rel, hw, k⟩ => ⟨B, G, δ, _, rel, hw, fun v H1 G1 o δ1 r1 s1 rel1 ok1 => by
    obtain ⟨d, ⟨j, a, b, c, x, xs, n, ys, rfl, hδ1, q⟩, bd⟩ := use_ok rel1 ok1 r1
    obtain ⟨o', hσ, rfl, h1, h2, h3, e1, e2, e3⟩ := rel1.at hδ1
    obtain rfl := bor_int bd
    refine ⟨.ref a, hσ, a, _, 0, .ref b, rfl, rfl, SqL.of e1, rfl, b, _, 0, 0, rfl, rfl, e2, by simp [ixN], ?_⟩
    exact k.nx _ _ G1 _ q s1 (rel1.put hδ1 hσ (by simp [Cell.fp]) rfl ⟨rfl, h1, h2, h3, by rw [upd_ne h1]; exact e1, by rw [upd_same]; rfl, by rw [upd_ne h3.symm]; exact e3⟩)⟩
theorem js_put2 {e : Expr} {w : DE} {pt : Pos} (h : PE X (.Name x px) (tVar i)) (he : JE X e w) (hs : swapsWithSole [.Subscript (.Name x px) (.Constant (.int 2) k1 p1) pt] e pos.line X.env = pure false := by rfl) (hw : swappedStores [.Subscript (.Name x px) (.Constant (.int 2) k1 p1) pt] e X.env = pure none := by rfl) :
    JS X (.Assign [.Subscript (.Name x px) (.Constant (.int 2) k1 p1) pt] e pos) (wPut2 i w) :=
  ps_le (ps_asg he (pg_sub h pe_int set_list) hs hw) fun pins s σ H D I ⟨B, G, δ, E, rel, hw, k⟩ => ⟨B, G, δ, _, rel, hw, fun v H1 G1 o δ1 r1 s1 rel1 ok1 => by
    obtain ⟨d, ⟨j, a, b, c, xs, n, ys, rfl, hδ1, q⟩, bd⟩ := use_ok rel1 ok1 r1
    obtain ⟨o', hσ, rfl, h1, h2, h3, e1, e2, e3⟩ := rel1.at hδ1
    obtain rfl := bor_int bd
    refine ⟨.ref a, hσ, a, _, 2, 2, rfl, rfl, e1, by simp [ixN], ?_⟩
    exact k.nx _ _ G1 _ q s1 (rel1.put hδ1 hσ (by simp [Cell.fp]) rfl ⟨rfl, h1, h2, h3, by rw [upd_same]; rfl, by rw [upd_ne h1.symm]; exact e2, by rw [upd_ne h2.symm]; exact e3⟩)⟩
theorem js_pop0 {apos cpos : Pos} (h : PE X (.Name x px) (tVar i)) (hs : swapsWith (.Call (.Attribute (.Subscript (.Name x px) (.Constant (.int 0) k1 p1) p2) "pop" apos) [.Constant (.int 0) k2 p3] [] cpos) none pos.line X.env = pure false := by rfl)
    (hb : PE X (.Call (.Attribute (.Subscript (.Name x px) (.Constant (.int 0) k1 p1) p2) "pop" apos) [.Constant (.int 0) k2 p3] [] cpos) (tBM X.K "list" rPopAt (tOp (rIxL X.K) (tVar i) (tC (.int 0))) (tCons (tC (.int 0)) tNil))) :
    JS X (.Expr (.Call (.Attribute (.Subscript (.Name x px) (.Constant (.int 0) k1 p1) p2) "pop" apos) [.Constant (.int 0) k2 p3] [] cpos) pos) (wPop0 i) :=
  ps_le (ps_expr hb hs) fun pins s σ H D I ⟨B, G, δ, E, rel, ⟨a, b, c, x, xs, n, ys, hδ, hw⟩, k⟩ => by
    obtain ⟨o', hσ, rfl, h1, h2, h3, e1, e2, e3⟩ := rel.at hδ
    refine ⟨.ref a, hσ, a, _, 0, .ref b, rfl, rfl, SqL.of e1, rfl, .inl ⟨rfl, _, SqL.of e2⟩, b, _, 0, 0, .int x, rfl, rfl, e2, by decide, by decide, by simp [seqIndex?], rfl, ?_⟩
    exact k.nx _ _ G _ hw (Same.refl _) (rel.put hδ hσ (by simp [Cell.fp]) rfl ⟨rfl, h1, h2, h3, by rw [upd_ne h1]; exact e1, by rw [upd_same]; rfl, by rw [upd_ne h3.symm]; exact e3⟩)
end
end DL
set_option Elab.async false
set_option linter.all false
set_option maxRecDepth 100000
set_option maxHeartbeats 4000000
namespace DL
open PySem PySem.Spec PyProof.Rows L2
variable [Tb]

theorem ixN_nn {n : Nat} {j : Int} (h0 : 0 ≤ j) (h1 : j < n) : ixN n j = some j.toNat := by
  unfold ixN
  simp [h0, h1]
theorem atI_nn {α : Type} {xs : List α} {j : Int} (h0 : 0 ≤ j) (h1 : j < xs.length) : atI xs j = xs[j.toNat]? := by
  unfold atI; rw [ixN_nn h0 h1]; rfl
theorem atI_ex {α : Type} {xs : List α} {j : Int} (h0 : 0 ≤ j) (h1 : j < xs.length) : ∃ z, z ∈ xs ∧ atI xs j = some z := by
  rw [atI_nn h0 h1]
  have h : j.toNat < xs.length := by omega
  exact ⟨xs[j.toNat], List.getElem_mem h, List.getElem?_eq_getElem h⟩
omit [Tb] in
@[simp] theorem atI_ofNat {α : Type} (xs : List α) (j : Nat) : atI xs (j : Int) = xs[j]? := by
  by_cases h : j < xs.length
  · rw [atI_nn (by omega) (by omega)]; simp
  · unfold atI
    have : ixN xs.length (j : Int) = none := by unfold ixN; simp; omega
    rw [this, List.getElem?_eq_none (by omega)]; rfl

omit [Tb] in
@[simp] theorem atI_0 {α : Type} (xs : List α) : atI xs 0 = xs[0]? := by
  have := atI_ofNat xs 0; simpa using this
omit [Tb] in
@[simp] theorem atI_1 {α : Type} (xs : List α) : atI xs 1 = xs[1]? := by
  have := atI_ofNat xs 1; simpa using this
omit [Tb] in
@[simp] theorem atI_lit {α : Type} (xs : List α) (n : Nat) : atI xs (no_index (OfNat.ofNat n : Int)) = xs[n]? := atI_ofNat xs n
omit [Tb] in
@[simp] theorem atI_m1 {α : Type} (xs : List α) : atI xs (-1) = xs.getLast? := by
  rw [List.getLast?_eq_getElem?]
  cases xs with
  | nil => rfl
  | cons x xs =>
    unfold atI ixN
    have h1 : ¬ (0 : Int) ≤ -1 := by omega
    have h2 : -(((x :: xs).length : Nat) : Int) ≤ -1 := by simp; omega
    rw [if_neg h1, if_pos h2]
    have : (-1 + (((x :: xs).length : Nat) : Int)).toNat = (x :: xs).length - 1 := by simp; omega
    rw [this]; rfl
/-! ### _law_draw -/
/-- a number that isn't negative and below -/
def spDraw : DSp := fun cs R => ∃ a b c m, cs = [.dk a b c, .d (.int m)] ∧ 0 < m ∧ m.natAbs.log2 < 9000 ∧ ∀ r, 0 ≤ r → r < m → R (.int r) [.dk a b c, .d (.int m)]
def wDrawA : DTS := wSeq (wSet 2 (mE (wK00 0))) (wSeq (wPut00 0 (wOp pDiv (wVar 2) (wVar 1))) (wSeq (wIf (wB (wOp pEq (wK00 0) (wC (.int 0)))) (wPop0 0) wNext) (wRet (wOp pMod (wFn pInt (wCons (wVar 2) wNil)) (wVar 1)))))
def wDrawB : DTS := wSeq (wPut2 0 (wOp pAdd (wK2 0) (wC (.int 1)))) (wSeq (wSet 3 (mE (wK1 0 (wOp pMod (wFn pInt (wCons (wK2 0) wNil)) (wKlen 0)))))
  (wSeq (wSet 4 (mE (wOp pMod (wFn pInt (wCons (wOp pAdd (wOp pMod (wFn pInt (wCons (wVar 3) wNil)) (wC (.int 4294966477))) (wOp pMul (wC (.int 1640531513)) (wK2 0))) wNil)) (wC (.int 4294966477)))))
  (wSeq (wSet 4 (mE (wOp pMod (wFn pInt (wCons (wOp pAdd (wOp pMul (wVar 4) (wVar 4)) (wOp pMul (wC (.int 86028121)) (wK2 0))) wNil)) (wC (.int 4294966427)))))
  (wRet (wOp pMod (wOp pDiv (wOp pMod (wFn pInt (wCons (wOp pMul (wVar 4) (wVar 4)) wNil)) (wC (.int 4294966373))) (wC (.int 1024))) (wVar 1))))))
def wDraw : DTS := wSeq (wIf (wKne 0) wDrawA wNext) wDrawB
theorem cm_small {i j : Int} (h0 : 0 ≤ i) (h1 : i < 4294967296) : CMul i j ∨ CMulW i j := .inl (.inl ⟨by omega, by omega⟩)
theorem rd_draw {a b c : Addr} {m : Int} {xs ys : List Int} {n : Int} {E : DEnds} (hm : 0 < m) (hl : m.natAbs.log2 < 9000) (hy : ys ≠ []) (hx : ∀ x ∈ xs, 0 ≤ x)
    (k : ∀ r xs n d2 d3 d4, 0 ≤ r → r < m → (∀ x ∈ xs, (0 : Int) ≤ x) → E.rt (.int r) [.dx a b c xs n ys, .d (.int m), d2, d3, d4]) : wDraw E [.dx a b c xs n ys, .d (.int m), .em, .em, .em] := by
  unfold wDraw
  cases xs with
  | nil =>
    have hpos : 0 < ys.length := List.length_pos_iff.mpr hy
    obtain ⟨z, _, hz⟩ := atI_ex (xs := ys) (j := (n + 1) % (ys.length : Int)) (Int.emod_nonneg _ (by omega)) (Int.emod_lt_of_pos _ (by omega))
    simp [wDrawB]
    rw [hz]
    simp
    refine ⟨hpos, cm_small (by omega) (by omega), cm_small (by omega) (by omega), cm_small (by omega) (by omega), cm_small (by omega) (by omega), by decide, hm, k _ _ _ _ _ _ (Int.emod_nonneg _ (by omega)) (Int.emod_lt_of_pos _ hm) (by simp)⟩
  | cons x xs =>
    have h0 : 0 ≤ x := hx x (by simp)
    simp [wDrawA]
    refine ⟨⟨hm, hl⟩, ?_⟩
    split
    · exact ⟨hm, k _ _ _ _ _ _ (Int.emod_nonneg _ (by omega)) (Int.emod_lt_of_pos _ hm) fun y hy => hx y (by simp [hy])⟩
    · refine ⟨hm, k _ _ _ _ _ _ (Int.emod_nonneg _ (by omega)) (Int.emod_lt_of_pos _ hm) fun y hy => ?_⟩
      rcases List.mem_cons.mp hy with e | hy
      · rw [e]; exact Int.ediv_nonneg h0 (by omega)
      · exact hx y (by simp [hy])
theorem ok_draw {P : Program} {w : World} {K : PySem.W.Frag} {mg : Str → Option Value} {base : Heap} {x qual : Str} {st : Stmt} {f : Addr} {fd : FuncData} {N ps : List Str} {k : Nat} (F : Fun K x qual st f fd) (S : FnScope N ps (defScope st)) (hN : N.length = 5) (hp : ps.length = 2)
    (body : ∀ (cdv : Value) (A : Around) (outer : List Env) (s : Shared) (H : Hp) (E : XK), RoomG k (A.deeper (envOfC qual (defScope st) s.heap.objs.size f cdv)) → JSs (cxOf CX0 P w K mg base N qual (defScope st) f cdv A outer s H E).nox (defBody st) wDraw) : FnG P w K mg base CX0 (k + 1) f fd ps (liftSp K spDraw) := by
  obtain ⟨oc, od, kV, doc, pm, an, cdv, ct, osl, rfl, lk', hcd⟩ := F.ex
  refine fnG_of lk' hcd S (fun vs H Q E ⟨B, G, cs, R, rel, ⟨a, b, c, m, e, _⟩, _⟩ => by have := rel.len; subst e; simp at this; omega) fun A outer s H vs Q E hr ⟨B, G, cs, R, rel, ⟨a, b, c, m, e, hm, hl, hR⟩, kk⟩ => ?_
  subst e
  have e0 : start0 N.length [Cell.dk a b c, .d (.int m)] = [.dk a b c, .d (.int m), .em, .em, .em] := by rw [hN]; rfl
  have rel0 : Rel K B G [.dk a b c, .d (.int m), .em, .em, .em] (L2.start N vs) H := e0 ▸ rel_start rel
  obtain ⟨o, hσ, rfl, h1, h2, h3, n, xs, ys, e1, e2, e3, hy, hx⟩ := rel0.at (i := 0) rfl
  have rel1 := rel0.swap (i := 0) (c' := .dx a b c xs n ys) rfl hσ rfl ⟨rfl, h1, h2, h3, e1, e2, e3⟩
  refine ⟨_, (body cdv A outer s H E hr).nox, B, G, _, { nx := fun _ => False, rt := fun z δ => ∃ r xs n d2 d3 d4, z = .int r ∧ 0 ≤ r ∧ r < m ∧ (∀ x ∈ xs, (0 : Int) ≤ x) ∧ δ = [.dx a b c xs n ys, .d (.int m), d2, d3, d4] }, rel1, ?_, ?_⟩
  · exact rd_draw hm hl hy hx fun r xs n d2 d3 d4 q0 q1 q2 => ⟨r, xs, n, d2, d3, d4, rfl, q0, q1, q2, rfl⟩
  · refine ⟨fun _ _ _ _ h => h.elim, ?_, fun _ _ _ _ h => h.elim, fun _ _ _ _ h => h.elim⟩
    rintro v σ' H' G' z δ' ⟨r, xs', n', d2, d3, d4, rfl, q0, q1, q2, rfl⟩ sG rel' dn
    obtain ⟨o', hσ', rfl, h1', h2', h3', e1', e2', e3'⟩ := rel'.at (i := 0) rfl
    have rel2 := rel'.swap (i := 0) (c' := .dk a b c) rfl hσ' rfl ⟨rfl, h1', h2', h3', n', xs', ys, e1', e2', e3', hy, q2⟩
    exact kk v H' G' (.int r) _ (hR r q0 q1) sG (rel_end rel rel2 sG ⟨rfl, trivial⟩) dn
end DL
set_option Elab.async false
set_option linter.all false
set_option maxRecDepth 100000
set_option maxHeartbeats 4000000
namespace DL
open PySem PySem.Spec PyProof.Rows L2
variable [Tb]

/-! ### the law's own head -/
theorem roomG_caller {k : Nat} (h : Room k callerA) : RoomG k callerA := ⟨h, rfl⟩
/-- what is tracked when the law begins: the script, if it isn't one of the module's own things -/
noncomputable def scrH (K : PySem.W.Frag) (a : Addr) (vs : List Value) (ns : List Int) : Hp := by
  classical
  exact fun b => if b = a ∧ K.lookup a = none then some (.frz { cls := .type "list", data := .seq vs.toArray } (.lst (ns.map V.int))) else none
section
variable {K : PySem.W.Frag} {a b : Addr} {vs : List Value} {ns : List Int}
theorem scrH_some {u : HO} (h : scrH K a vs ns b = some u) : b = a ∧ K.lookup a = none ∧ u = .frz { cls := .type "list", data := .seq vs.toArray } (.lst (ns.map V.int)) := by
  unfold scrH at h
  split at h
  · rename_i c; exact ⟨c.1, c.2, (Option.some.inj h).symm⟩
  · cases h
theorem scrH_at (h : K.lookup a = none) : scrH K a vs ns a = some (.frz { cls := .type "list", data := .seq vs.toArray } (.lst (ns.map V.int))) := by
  unfold scrH; exact if_pos ⟨rfl, h⟩
theorem scrH_off (h : ¬ (b = a ∧ K.lookup a = none)) : scrH K a vs ns b = none := by
  unfold scrH; exact if_neg h
end
/-- how the modules stand when the law is called -/
structure Began (K : PySem.W.Frag) (mg : Str → Option Value) (h : Heap) : Prop where
  code : K.In h
  own : h.Ns mainGlobals mg
  given : ∃ mb, h.Ns builtinsNs mb ∧ ∀ x : Str, x ≠ "__name__" → mb x = bootBuiltins x
  free : h.NoLimit
/-- the script lies at a -/
structure Script (h : Heap) (a : Addr) (vs : List Value) (ns : List Int) : Prop where
  at_a : h.get? a = some { cls := .type "list", data := .seq vs.toArray }
  nums : IntsAre vs ns
  fits : ns.length ≤ sizeLine
/-- a function of one parameter is given, and keeps the promise over every base -/
abbrev OneArg (P : Program) (w : World) (K : PySem.W.Frag) (mg : Str → Option Value) (k : Nat) (fa : Addr) (x : Str) (sp : Sp) (fd : FuncData) : Prop :=
  (∀ (s : Shared) (u : Value), BindsTo s fd ⟨[u], []⟩ [(x, u)]) ∧ ∀ base : Heap, K.In base → base.Ns mainGlobals mg → FnG P w K mg base CX0 k fa fd [x] sp
/-- on this script the promise asks nothing, and tells True -/
abbrev TrueOn (K : PySem.W.Frag) (sp : Sp) (a : Addr) (ns : List Int) : Prop :=
  ∀ H : Hp, L2.Only H → SqL K H a (ns.map V.int) → sp [.ref a] H (fun v _ => v = .bl true) fun _ _ _ => False
theorem lawG {P : Program} {w : World} {K : PySem.W.Frag} {mg : Str → Option Value} {k : Nat} {fa a : Addr} {fd : FuncData} {x : Str} {sp : Sp} {s₁ : Shared} {vs : List Value} {ns : List Int}
    (B : Began K mg s₁.heap) (hg : s₁.gens = #[]) (S : Script s₁.heap a vs ns) (hr : Room k callerA) (F : OneArg P w K mg k fa x sp fd) (hsp : TrueOn K sp a ns) :
    codeAny (model P w) callerA (.call (.ref fa) ⟨[.ref a], []⟩) (fun r z => r = .ok (.ret (.bool true)) ∧ OldK s₁.heap z.heap ∧ z.os = s₁.os ∧ AllBare z.gens) s₁ := by
  obtain ⟨KX, hns, ⟨mb, hb, hbb⟩, hlim⟩ := B
  obtain ⟨ha, hi, hl⟩ := S
  obtain ⟨hbind, F⟩ := F
  have rv := vals_ints hi
  let T : Hp := scrH K a vs ns
  have only : L2.Only T := fun b => by
    cases q : T b with
    | none => exact .inl rfl
    | some u => obtain ⟨_, _, e⟩ := scrH_some q; exact .inr ⟨_, _, by rw [e]⟩
  have reads : SqL K T a (ns.map V.int) := by
    cases hk : K.lookup a with
    | none => exact .inl (.inr ⟨_, scrH_at hk⟩)
    | some o =>
      have e := KX a o hk
      rw [ha] at e
      cases e
      exact .inr ⟨_, vs.toArray, _, hk, rfl, rfl, rfl, by rw [List.size_toArray, hi.length]; exact hl, by simpa using rv⟩
  have hok : HOk P w T s₁.heap := fun b u q => by
    obtain ⟨rfl, _, rfl⟩ := scrH_some q
    exact ⟨ha, (List.length_map (as := ns) V.int).symm ▸ hl, vs, _, rv, ha⟩
  have free : ∀ {b : Addr} {o : Obj}, s₁.heap.get? b = some o → (∀ vs n, o.data ≠ .seq vs n) → T b = none := fun {b o} e d => by
    cases q : T b with
    | none => rfl
    | some u =>
      obtain ⟨rfl, _, _⟩ := scrH_some q
      rw [ha] at e
      cases e
      exact absurd rfl (d _ _)
  have names : ∀ {b : Addr} {m : Str → Option Value}, s₁.heap.Ns b m → (hidT s₁.heap T).Ns b m := fun {b m} ⟨o, es, ep, e, d, r⟩ =>
    ⟨o, es, ep, hidT_get e (free e fun _ _ z => by rw [d] at z; cases z), d, r⟩
  have kIn : K.In (hidT s₁.heap T) := fun b o e => hidT_get (KX b o e) (scrH_off fun ⟨h1, h2⟩ => by rw [h1, h2] at e; cases e)
  have md : Mod K mg (hidT s₁.heap T) := ⟨kIn, names hns, ⟨mb, names hb, hbb⟩, let ⟨mc, h1, h2⟩ := hlim; ⟨mc, names h1, h2⟩⟩
  have env : Env0 P w K mg (hidT s₁.heap T) callerA [] s₁ T :=
    { frames := rfl, mod := md, bs := fun b o e => of_hidT e, bsz := Nat.le_of_eq (hidT_size _ _), funs := trivial, frf := fun b hb => (nomatch (show b ∈ ([] : List Addr) from hb)), hok := hok, bare := .of_eq hg }
  have run := (F _ kIn (names hns)).run callerA [] s₁ T ⟨[.ref a], []⟩ [.ref a] [.ref a] _ _ (roomG_caller hr) env (hbind s₁ (.ref a)) (.cons rfl .nil) (hsp T only reads)
  have back : ∀ {H' : Hp} {z : Shared}, Un (frs []) [] T H' s₁.heap z.heap → HOk P w H' z.heap → OldK s₁.heap z.heap := fun un ok => OldK.of_keep fun b o e => by
    cases q : T b with
    | none => exact un.keep b o e q (List.not_mem_nil) (by simp)
    | some t =>
      obtain ⟨rfl, _, rfl⟩ := scrH_some q
      exact (ok b _ (un.frzs b _ _ q)).1.trans (ha.symm.trans e)
  refine codeAny_mono run ?_
  rintro (e | _ | _ | _ | u) z h <;> try exact False.elim h
  obtain ⟨v, H', os, bare, un, ok, rv', rfl⟩ := h
  cases (show u = Value.bool true from rv')
  exact ⟨rfl, back un ok, os, bare⟩
theorem walkG {l : PySem.W.OpenLaw} {n k : Nat} {q : Program} {loose : List Str} {XP : (Str → Option Value) → Heap → Prop} {YP : World → Heap → Prop} {d : DefRec} {K : Params → PySem.W.Frag} {sp : PySem.W.Frag → Sp} {x : Str}
    (most : l.most = some n) (fits : n ≤ sizeLine) (plain : d.params.defaults = []) (room : Room k callerA) (code : ∀ (w : World) (h : Heap), YP w h → (K w.params).In h)
    (law : ∀ (w : World) (mg : Str → Option Value) (fa : Addr) (h : Heap), (K w.params).In h → h.Ns mainGlobals mg → mg d.name = some (.ref fa) → ∃ fd : FuncData, OneArg l.prog w (K w.params) mg k fa x (sp (K w.params)) fd)
    (true' : ∀ (K : PySem.W.Frag) (H : Hp) (a : Addr) (ns : List Int), ns.length ≤ n → L2.Only H → SqL K H a (ns.map V.int) → sp K [.ref a] H (fun v _ => v = .bl true) fun _ _ _ => False) : PySem.W.WalkO q loose XP YP l.row.toRowW d [] (fun f vs => PySem.call f vs) :=
  Att.attach_call most plain fun w _ s₁ mg mb fa _ _ _ _ a vs ns G Y _ _ _ at_law at_a are few calm =>
    have KX := code w _ Y
    let ⟨_, F⟩ := law w mg fa _ KX G.T.g at_law
    lawG ⟨KX, G.T.g, ⟨mb, G.T.b, G.T.builtins⟩, G.T.nolimit⟩ calm ⟨at_a, are, Nat.le_trans few fits⟩ room F fun H only reads => true' _ H a ns few only reads
/-- the law over data: from the script, True -/
def spLaw : DSp := fun cs R => ∃ a ns, cs = [.scr a ns] ∧ ∀ cs', R (.bool true) cs'
theorem law_start {K : PySem.W.Frag} {H : Hp} {a : Addr} {ns : List Int} (h : SqL K H a (ns.map V.int)) (hT : LamX.Tabs Tb.T H := by intro p hp; cases hp) : liftSp K spLaw [.ref a] H (fun v _ => v = .bl true) fun _ _ _ => False := by
  refine ⟨fun _ => none, H, [.scr a ns], fun x _ => x = .bool true, ?_, ⟨a, ns, rfl, fun _ => rfl⟩, ?_⟩
  · refine ⟨rfl, Same.refl _, fun a o e => (by cases e), fun a => .inr rfl, fun i c o e1 e2 => ?_, fun i j c c' a e1 e2 m1 m2 => ?_, fun i c a e m => ?_, hT⟩
    · cases i with
      | zero => simp at e1 e2; subst e1 e2; exact ⟨rfl, h⟩
      | succ i => simp at e1
    · cases i with
      | zero => simp at e1; subst e1; cases m1
      | succ i => simp at e1
    · cases i with
      | zero => simp at e; subst e; cases m
      | succ i => simp at e
  · rintro v H' G' x cs' rfl _ _ dn
    exact dn_bool dn
end DL
set_option Elab.async false
set_option linter.all false
set_option maxRecDepth 100000
set_option maxHeartbeats 4000000
namespace DL
open PySem PySem.Spec PyProof.Rows L2
variable [Tb]

/-! ### short names for the printed derivations -/
section
variable {X : Cx} {x : Str} {pos : Pos} {e : Expr} {es : List Expr}
theorem jpv (i : Nat) (hN : X.N[i]? = some x := by rfl) (hv : Vis X.env.scope x := by first | exact .inl rfl | exact .inr (.inl rfl) | exact .inr (.inr rfl)) (hd : (x == ("__debug__" : Str)) = false := by decide) (hcd : (x == ("__classdict__" : Str)) = false := by decide) : PE X (.Name x pos) (tVar i) := pe_var hN hv hd hcd
theorem jv (i : Nat) (hN : X.N[i]? = some x := by rfl) (hv : Vis X.env.scope x := by first | exact .inl rfl | exact .inr (.inl rfl) | exact .inr (.inr rfl)) (hd : (x == ("__debug__" : Str)) = false := by decide) (hcd : (x == ("__classdict__" : Str)) = false := by decide) : JE X (.Name x pos) (wVar i) := je_var (pe_var hN hv hd hcd)
theorem jgn (i : Nat) (nd : X.N.Nodup) (hN : X.N[i]? = some x := by rfl) (hx : Loc X.env.scope x := by first | exact .inl rfl | exact .inr rfl) (hf : X.fn x = true ∨ X.env.scope.names.lookup x = some .local := by first | exact .inl rfl | exact .inr rfl) : JG X (.Name x pos) [i] (gN i) := jg_name nd hN hx hf
theorem jset (i : Nat) {w : DM} {pos' : Pos} (nd : X.N.Nodup) (he : JM X e w) (hi : X.N[i]? = some x := by rfl) (hx : Loc X.env.scope x := by first | exact .inl rfl | exact .inr rfl) (hs : swapsWith e (some (.Name x pos')) pos.line X.env = pure false := by rfl) (hf : X.fn x = true ∨ X.env.scope.names.lookup x = some .local := by first | exact .inl rfl | exact .inr rfl) :
    JS X (.Assign [.Name x pos'] e pos) (wSet i w) := js_set nd hi hx he hs hf
theorem jaug (i : Nat) {w : DE} {op : Operator} {p : P2} {pos' : Pos} (nd : X.N.Nodup) (he : JE X e w) (ho : OpD X (inplaceOp op) p) (hi : X.N[i]? = some x := by rfl) (hx : Loc X.env.scope x := by first | exact .inl rfl | exact .inr rfl) (hf : X.fn x = true ∨ X.env.scope.names.lookup x = some .local := by first | exact .inl rfl | exact .inr rfl) :
    JS X (.AugAssign (.Name x pos') op e pos) (wAug i p w) := js_aug nd hi hx he ho hf
theorem jpar {i j : Nat} {x y : Str} {a b : Expr} {w : DMs} {px py pt : Pos} {kt k2 pt2} (hc : X.calm = true) (hN : X.N.Nodup) (hi : X.N[i]? = some x) (hj : X.N[j]? = some y) (hij : i ≠ j) (ha : JMs X [a, b] w) (hx : X.env.scope.names.lookup x = some .local := by rfl) (hy : X.env.scope.names.lookup y = some .local := by rfl) 
    (hw : swappedStores [.Tuple [.Name x px, .Name y py] kt pt] (.Tuple [a, b] k2 pt2) X.env = pure (some [x, y]) := by rfl) (hs : swapsWithSole [.Tuple [.Name x px, .Name y py] kt pt] (.Tuple [a, b] k2 pt2) pos.line X.env = pure false := by rfl) :
    JS X (.Assign [.Tuple [.Name x px, .Name y py] kt pt] (.Tuple [a, b] k2 pt2) pos) (wPar2 i j w) := js_par2 hc hN hi hj hij hx hy ha hw hs
/-! x op= e -/
def pIAdd : P2 := fun x y R => match x, y with
  | .int i, .int j => R (.int (i + j))
  | .str a, .str b => a.length + b.length ≤ 1000000 ∧ R (.str (a ++ b))
  | _, _ => False
def pISub : P2 := ints2 fun i j R => R (.int (i - j))
def pIMul : P2 := ints2 fun i j R => CMul i j ∧ R (.int (i * j))
def pIDiv : P2 := ints2 fun i j R => CDiv i j ∧ R (.int (i / j))
def pIMod : P2 := ints2 fun i j R => 0 < j ∧ R (.int (i % j))
omit [Tb] in
@[simp] theorem pIAdd_ii (i j : Int) (R : PyData → Prop) : pIAdd (.int i) (.int j) R = R (.int (i + j)) := rfl
omit [Tb] in
@[simp] theorem pIAdd_ss (a b : Str) (R : PyData → Prop) : pIAdd (.str a) (.str b) R = (a.length + b.length ≤ 1000000 ∧ R (.str (a ++ b))) := rfl
omit [Tb] in
@[simp] theorem pISub_ii (i j : Int) (R : PyData → Prop) : pISub (.int i) (.int j) R = R (.int (i - j)) := rfl
omit [Tb] in
@[simp] theorem pIMul_ii (i j : Int) (R : PyData → Prop) : pIMul (.int i) (.int j) R = (CMul i j ∧ R (.int (i * j))) := rfl
omit [Tb] in
@[simp] theorem pIDiv_ii (i j : Int) (R : PyData → Prop) : pIDiv (.int i) (.int j) R = (CDiv i j ∧ R (.int (i / j))) := rfl
omit [Tb] in
@[simp] theorem pIMod_ii (i j : Int) (R : PyData → Prop) : pIMod (.int i) (.int j) R = (0 < j ∧ R (.int (i % j))) := rfl
theorem d_iadd : OpD X (inplaceOp .Add) pIAdd := by
  intro pins s σ H x y v u Q I rx ry ⟨B, G, δ, σ', dx, dy, R, rel, bx, by', q, k⟩
  cases dx <;> cases dy <;> first | exact False.elim q | skip
  · exact iop_add pins s σ H x y v u Q I rx ry ⟨_, _, bor_int bx, bor_int by', k _ H G _ q (Same.refl _) rel (Dn.int _)⟩
  · exact iop_add_str pins s σ H x y v u Q I rx ry ⟨_, _, bor_str bx, bor_str by', million q.1, k _ H G _ q.2 (Same.refl _) rel (Dn.str _)⟩
theorem d_isub : OpD X (inplaceOp .Sub) pISub := opd_ints0 iop_sub
theorem d_imul : OpD X (inplaceOp .Mult) pIMul := opd_ints iop_mul fun i j R h => h
theorem d_idiv : OpD X (inplaceOp .FloorDiv) pIDiv := opd_ints iop_fdiv fun i j R h => h
theorem d_imod : OpD X (inplaceOp .Mod) pIMod := opd_ints iop_mod fun i j R h => h
end
end DL
set_option Elab.async false
set_option linter.all false
set_option maxRecDepth 100000
set_option maxHeartbeats 4000000
namespace DL
open PySem PySem.Spec PyProof.Rows L2
variable [Tb]

/-! ### readings over lists of one's own -/
variable {g : DTG} {t : DT} {e : DE} {vs : List Nat} {xs : List PyData} {δ : DS}
theorem com_map {α : Type} {R : List PyData → DS → Prop} {u : Stop R} (as : List α) (d : α → PyData) (hx : xs = as.map d) (f : α → Option PyData)
    (hs : ∀ a ∈ as, ∀ (acc : List PyData) (K : List PyData → DS → Prop), K (acc ++ (f a).toList) δ → g (d a) δ fun δ1 => t δ1 fun b δ2 => if b = true then e δ2 fun o δ3 => lk o δ3 fun y δ4 => K (acc ++ [y]) (wipeD δ4 vs) else K acc (wipeD δ2 vs)) (k : R (as.filterMap f) δ) : comC g t e vs xs [] δ R u := by
  subst hx
  refine com_inv (fun ys acc δ' => δ' = δ ∧ ∃ bs : List α, ys = bs.map d ∧ (∀ x ∈ bs, x ∈ as) ∧ acc ++ bs.filterMap f = as.filterMap f) ⟨rfl, as, rfl, fun _ h => h, rfl⟩ ?_ ?_
  · rintro acc δ' ⟨rfl, bs, hb, _, h⟩
    have : bs = [] := by cases bs with
      | nil => rfl
      | cons => cases hb
    subst this
    have h' : acc = as.filterMap f := by simpa using h
    rw [h']; exact k
  · rintro x ys acc δ' ⟨rfl, bs, hb, hm, h⟩ K hK
    cases bs with
    | nil => cases hb
    | cons a bs =>
      simp only [List.map_cons, List.cons.injEq] at hb
      obtain ⟨rfl, rfl⟩ := hb
      refine hs a (hm a (List.mem_cons_self ..)) acc K (hK _ _ ⟨rfl, bs, rfl, fun y hy => hm y (List.mem_cons_of_mem _ hy), ?_⟩)
      rw [← h, List.filterMap_cons]
      cases f a <;> simp
theorem list_of {α : Type} {d : α → PyData} {P : α → Prop} : ∀ {ys : List PyData}, (∀ y ∈ ys, ∃ a, y = d a ∧ P a) → ∃ as : List α, ys = as.map d ∧ ∀ a ∈ as, P a
  | [], _ => ⟨[], rfl, by simp⟩
  | y :: ys, h => by
    obtain ⟨i, rfl, hi⟩ := h y (List.mem_cons_self ..)
    obtain ⟨ns, rfl, hn⟩ := list_of (ys := ys) fun z hz => h z (List.mem_cons_of_mem _ hz)
    exact ⟨i :: ns, rfl, fun j hj => by
      rcases List.mem_cons.mp hj with q | q
      · rw [q]; exact hi
      · exact hn j q⟩
/-- each item by one of many, of a kind -/
theorem com_of {α : Type} {R : List PyData → DS → Prop} {u : Stop R} (d : α → PyData) (P : α → Prop)
    (hs : ∀ x ∈ xs, ∀ (acc : List PyData) (K : List PyData → DS → Prop), (∀ a, P a → K (acc ++ [d a]) δ) → g x δ fun δ1 => t δ1 fun b δ2 => if b = true then e δ2 fun o δ3 => lk o δ3 fun y δ4 => K (acc ++ [y]) (wipeD δ4 vs) else K acc (wipeD δ2 vs)) (k : ∀ as : List α, as.length = xs.length → (∀ a ∈ as, P a) → R (as.map d) δ) : comC g t e vs xs [] δ R u :=
  com_any (fun y => ∃ a, y = d a ∧ P a) (fun x hx acc K hK => hs x hx acc K fun i hi => hK _ ⟨i, rfl, hi⟩) fun ys hl hy => by
    obtain ⟨ns, rfl, hn⟩ := list_of hy
    exact k ns (by simpa using hl) hn
theorem cutD_take {α : Type} (xs : List α) (n : Nat) : cutD xs none (some (n : Int)) = xs.take n := by
  unfold cutD
  rw [HT.sIx_none, HT.sIx_nat]
  simp only [List.drop_zero, Nat.sub_zero]
  by_cases h : n ≤ xs.length
  · rw [Nat.min_eq_left h]
  · rw [Nat.min_eq_right (by omega), List.take_of_length_le (by omega), List.take_of_length_le (by omega)]
theorem for_map {α : Type} {b : DTS} {E : DEnds} {u : Stop E} (as : List α) (d : α → PyData) (hx : xs = as.map d) (P : List α → DS → Prop) (Q : DS → Prop) (Z : PyData → DS → Prop) (h : P as δ) (h0 : ∀ δ, P [] δ → E.nx δ) (hq : ∀ δ, Q δ → E.nx δ) (hz : ∀ x δ, Z x δ → E.rt x δ)
    (hs : ∀ a bs δ, P (a :: bs) δ → ∀ (K B : DS → Prop) (T : PyData → DS → Prop), (∀ δ', P bs δ' → K δ') → (∀ δ', Q δ' → B δ') → (∀ x δ', Z x δ' → T x δ') → g (d a) δ fun δ1 => b { nx := K, rt := T, bk := B, ct := K } δ1) : forC g b xs δ E u := by
  subst hx
  refine for_inv (fun ys δ' => ∃ bs : List α, ys = bs.map d ∧ P bs δ') Q Z ⟨as, rfl, h⟩ ?_ hq hz ?_
  · rintro δ ⟨bs, hb, p⟩
    cases bs with
    | nil => exact h0 δ p
    | cons => cases hb
  · rintro x ys δ ⟨bs, hb, p⟩ K B T hK hB hT
    cases bs with
    | nil => cases hb
    | cons a bs =>
      simp only [List.map_cons, List.cons.injEq] at hb
      obtain ⟨rfl, rfl⟩ := hb
      exact hs a bs δ p K B T (fun δ' p' => hK δ' ⟨bs, rfl, p'⟩) hB hT
/-- a loop without break and return -/
theorem for_plain {α : Type} {b : DTS} {E : DEnds} {u : Stop E} (as : List α) (d : α → PyData) (hx : xs = as.map d) (P : List α → DS → Prop) (h : P as δ) (h0 : ∀ δ, P [] δ → E.nx δ)
    (hs : ∀ a bs δ, P (a :: bs) δ → ∀ (K B : DS → Prop) (T : PyData → DS → Prop), (∀ δ', P bs δ' → K δ') → g (d a) δ fun δ1 => b { nx := K, rt := T, bk := B, ct := K } δ1) : forC g b xs δ E u :=
  for_map as d hx P (fun _ => False) (fun _ _ => False) h h0 (fun _ h => h.elim) (fun _ _ h => h.elim) fun a bs δ p K B T hK _ _ => hs a bs δ p K B T hK
theorem pairsD_zip {α β : Type} (d : α → PyData) (f : β → PyData) : ∀ (as : List α) (bs : List β), pairsD (as.map d) (bs.map f) = (as.zip bs).map fun p => .tuple [d p.1, f p.2]
  | [], _ => by simp [pairsD]
  | _ :: _, [] => by simp [pairsD]
  | a :: as, b :: bs => by simp [pairsD, pairsD_zip d f as bs]
theorem triosD_zip {α β γ : Type} (d : α → PyData) (f : β → PyData) (h : γ → PyData) : ∀ (as : List α) (bs : List β) (cs : List γ), triosD (as.map d) (bs.map f) (cs.map h) = (as.zip (bs.zip cs)).map fun p => .tuple [d p.1, f p.2.1, h p.2.2]
  | [], _, _ => by simp [triosD]
  | _ :: _, [], _ => by simp [triosD]
  | _ :: _, _ :: _, [] => by simp [triosD]
  | a :: as, b :: bs, c :: cs => by simp [triosD, triosD_zip d f h as bs cs]
theorem nums_map (lo : Int) (n : Nat) : nums lo n = (List.range n).map fun (i : Nat) => PyData.int (lo + (i : Int)) := rfl
theorem nums_0 (n : Nat) : nums 0 n = (List.range n).map fun (i : Nat) => PyData.int (i : Int) := by simp [nums]
theorem log_lt {m : Int} {k : Nat} (h0 : 0 < m) (h1 : m < 2 ^ k) : m.natAbs.log2 < k := by
  have : m.natAbs < 2 ^ k := by
    have e : (m.natAbs : Int) = m := Int.natAbs_of_nonneg (by omega)
    have h2 : ((m.natAbs : Nat) : Int) < ((2 ^ k : Nat) : Int) := by rw [e]; simpa using h1
    exact Int.ofNat_lt.mp h2
  exact (Nat.log2_lt (by omega)).mpr this
theorem ask_of {sp : DSp} {cs : List Cell} {K : PyData → List Cell → Prop} {u : Stop K} (h : sp cs K) : ask sp cs K u := h
theorem cm_l {i j : Int} (h : -(2 ^ 64) < i ∧ i < 2 ^ 64) : CMul i j ∨ CMulW i j := .inl (.inl h)
theorem cm_r {i j : Int} (h : -(2 ^ 64) < j ∧ j < 2 ^ 64) : CMul i j ∨ CMulW i j := .inl (.inr h)
/-- a draw -/
theorem ask_draw {a b c : Addr} {m : Int} {K : PyData → List Cell → Prop} {u : Stop K} (h0 : 0 < m) (h1 : m < 2 ^ 64) (k : ∀ r, 0 ≤ r → r < m → K (.int r) [.dk a b c, .d (.int m)]) : ask spDraw [.dk a b c, .d (.int m)] K u :=
  ⟨a, b, c, m, rfl, h0, Nat.lt_trans (log_lt h0 h1) (by decide), k⟩
/-- the deck is made -/
theorem ask_deck {a : Addr} {ns : List Int} {K : Cell → List Cell → Prop} {u : Stop K} (k : ∀ p q r, K (.dk p q r) [.scr a ns]) : askM spDeck [.scr a ns] K u := ⟨a, ns, rfl, k⟩
end DL
set_option Elab.async false
set_option linter.all false
set_option maxRecDepth 100000
set_option maxHeartbeats 4000000
namespace DL
open PySem PySem.Spec PyProof.Rows L2
variable [Tb]

/-! ### small data: what is shown of it -/
/-- ints of less than B bits, sequences of at most L items, n deep -/
def Sml (B L : Nat) : Nat → PyData → Prop
  | _, .none => True
  | _, .bool _ => True
  | _, .int i => i.natAbs.log2 < B
  | n + 1, .list xs => xs.length ≤ L ∧ ∀ x ∈ xs, Sml B L n x
  | n + 1, .tuple xs => xs.length ≤ L ∧ ∀ x ∈ xs, Sml B L n x
  | _, _ => False
def smlW (B L : Nat) : Nat → Nat
  | 0 => B + 8
  | n + 1 => L * (smlW B L n + 2) + 4 + (B + 8)
theorem smlW_lo (B L n : Nat) : B + 8 ≤ smlW B L n := by cases n <;> simp [smlW]
theorem all_of {P : PyData → Bool} {F : List PyData → Bool} (h0 : F [] = true) (h1 : ∀ x xs, F (x :: xs) = (P x && F xs)) : ∀ xs : List PyData, (∀ x ∈ xs, P x = true) → F xs = true
  | [], _ => h0
  | x :: xs, h => by rw [h1, h x (List.mem_cons_self ..), all_of h0 h1 xs fun y hy => h y (List.mem_cons_of_mem _ hy)]; rfl
theorem sml_show {B L : Nat} (hB : B ≤ 1920) : ∀ (n : Nat) (d : PyData), Sml B L n d → d.showable = true
  | n, .none, _ => by simp [PyData.showable]
  | n, .bool _, _ => by simp [PyData.showable]
  | n, .int i, h => by simp only [PyData.showable, decide_eq_true_eq]; unfold Sml at h; omega
  | n, .str _, _ => by simp [PyData.showable]
  | n + 1, .list xs, h => by
    simp only [PyData.showable]
    unfold Sml at h
    exact all_of (P := PyData.showable) (by simp [PyData.showableAll]) (by intros; simp [PyData.showableAll]) xs fun x hx => sml_show hB n x (h.2 x hx)
  | n + 1, .tuple xs, h => by
    simp only [PyData.showable]
    unfold Sml at h
    exact all_of (P := PyData.showable) (by simp [PyData.showableAll]) (by intros; simp [PyData.showableAll]) xs fun x hx => sml_show hB n x (h.2 x hx)
  | 0, .list xs, h => by unfold Sml at h; exact h.elim
  | 0, .tuple xs, h => by unfold Sml at h; exact h.elim
  | 0, .dict xs, h => by unfold Sml at h; exact h.elim
  | n + 1, .dict xs, h => by unfold Sml at h; exact h.elim
theorem sml_noDict {B L : Nat} : ∀ (n : Nat) (d : PyData), Sml B L n d → d.hasDict = false
  | n, .none, _ => by simp [PyData.hasDict]
  | n, .bool _, _ => by simp [PyData.hasDict]
  | n, .int i, h => by simp [PyData.hasDict]
  | n, .str _, _ => by simp [PyData.hasDict]
  | n + 1, .list xs, h => by
    simp only [PyData.hasDict]
    unfold Sml at h
    have := all_of (P := fun x => !x.hasDict) (F := fun xs => !PyData.hasDictAll xs) (by simp [PyData.hasDictAll]) (by intros; simp [PyData.hasDictAll]) xs fun x hx => by simp [sml_noDict n x (h.2 x hx)]
    simpa using this
  | n + 1, .tuple xs, h => by
    simp only [PyData.hasDict]
    unfold Sml at h
    have := all_of (P := fun x => !x.hasDict) (F := fun xs => !PyData.hasDictAll xs) (by simp [PyData.hasDictAll]) (by intros; simp [PyData.hasDictAll]) xs fun x hx => by simp [sml_noDict n x (h.2 x hx)]
    simpa using this
  | 0, .list xs, h => by unfold Sml at h; exact h.elim
  | 0, .tuple xs, h => by unfold Sml at h; exact h.elim
  | 0, .dict xs, h => by unfold Sml at h; exact h.elim
  | n + 1, .dict xs, h => by unfold Sml at h; exact h.elim
theorem depthAll_le {n : Nat} : ∀ xs : List PyData, (∀ x ∈ xs, x.depth ≤ n) → PyData.depthAll xs ≤ n
  | [], _ => by simp [PyData.depthAll]
  | x :: xs, h => by
    simp only [PyData.depthAll]
    have h1 := h x (List.mem_cons_self ..)
    have h2 := depthAll_le xs fun y hy => h y (List.mem_cons_of_mem _ hy)
    omega
theorem sml_depth {B L : Nat} : ∀ (n : Nat) (d : PyData), Sml B L n d → d.depth ≤ n
  | n, .none, _ => by simp [PyData.depth]
  | n, .bool _, _ => by simp [PyData.depth]
  | n, .int i, h => by simp [PyData.depth]
  | n, .str _, _ => by simp [PyData.depth]
  | n + 1, .list xs, h => by
    simp only [PyData.depth]
    unfold Sml at h
    have := depthAll_le xs fun x hx => sml_depth n x (h.2 x hx)
    omega
  | n + 1, .tuple xs, h => by
    simp only [PyData.depth]
    unfold Sml at h
    have := depthAll_le xs fun x hx => sml_depth n x (h.2 x hx)
    omega
  | 0, .list xs, h => by unfold Sml at h; exact h.elim
  | 0, .tuple xs, h => by unfold Sml at h; exact h.elim
  | 0, .dict xs, h => by unfold Sml at h; exact h.elim
  | n + 1, .dict xs, h => by unfold Sml at h; exact h.elim
theorem textFrom_le : ∀ (ts : List Str) (k : Nat) (acc : Str) (W : Nat), (∀ t ∈ ts, t.length ≤ W) → (textFrom k acc ts).length ≤ acc.length + ts.length * (W + 2)
  | [], k, acc, W, _ => by simp [textFrom]
  | t :: r, k, acc, W, h => by
    have ih := textFrom_le r (k + 1) (acc ++ (if k > 0 then ", " else "" : String) ++ t) W fun y hy => h y (List.mem_cons_of_mem _ hy)
    have e : (acc ++ (if k > 0 then ", " else "" : String) ++ t).length ≤ acc.length + 2 + t.length := by
      rw [strLen_append, strLen_append]
      split
      · have : ((", " : String) : Str).length = 2 := rfl
        omega
      · have : (("" : String) : Str).length = 0 := rfl
        omega
    have ht := h t (List.mem_cons_self ..)
    show (textFrom (k + 1) _ r).length ≤ _
    rw [List.length_cons, Nat.succ_mul]
    omega
theorem piled_le : ∀ (ts : List Str) (W : Nat), (∀ t ∈ ts, t.length ≤ W) → piled ts ≤ ts.length * (W + 2)
  | [], W, _ => by simp [piled]
  | t :: r, W, h => by
    have ih := piled_le r W fun y hy => h y (List.mem_cons_of_mem _ hy)
    have ht := h t (List.mem_cons_self ..)
    have e : piled (t :: r) = t.length + 2 + piled r := by simp [piled]
    rw [e, List.length_cons, Nat.succ_mul]
    omega
theorem shownAll_map : ∀ xs : List PyData, PyData.shownAll xs = xs.map PyData.shown
  | [] => by simp [PyData.shownAll]
  | x :: xs => by simp [PyData.shownAll, shownAll_map xs]
theorem sml_shown {B L : Nat} (hB : 0 < B) : ∀ (n : Nat) (d : PyData), Sml B L n d → d.shown.length ≤ smlW B L n
  | n, .none, _ => Nat.le_trans (show _ ≤ 8 by simp only [PyData.shown]; decide) (Nat.le_trans (by omega) (smlW_lo B L n))
  | n, .bool b, _ => Nat.le_trans (show _ ≤ 8 by cases b <;> (simp only [PyData.shown]; decide)) (Nat.le_trans (by omega) (smlW_lo B L n))
  | n, .int i, h => by
    unfold Sml at h
    have := int_text_length_le hB h
    have lo := smlW_lo B L n
    simp only [PyData.shown]
    show (Str.ofString (toString i)).length ≤ _
    rw [PySem.ofString_length]
    omega
  | n + 1, .list xs, h => by
    unfold Sml at h
    have ih : ∀ t ∈ xs.map PyData.shown, t.length ≤ smlW B L n := fun t ht => by
      obtain ⟨x, hx, rfl⟩ := List.mem_map.mp ht
      exact sml_shown hB n x (h.2 x hx)
    simp only [PyData.shown, shownAll_map]
    unfold listText
    rw [strLen_append]
    have q := textFrom_le (xs.map PyData.shown) 0 "[" _ ih
    have e1 : (("[" : String) : Str).length = 1 := rfl
    have e2 : (("]" : String) : Str).length = 1 := rfl
    have m := Nat.mul_le_mul_right (smlW B L n + 2) h.1
    simp only [List.length_map] at q
    simp only [smlW]
    omega
  | n + 1, .tuple xs, h => by
    unfold Sml at h
    have ih : ∀ t ∈ xs.map PyData.shown, t.length ≤ smlW B L n := fun t ht => by
      obtain ⟨x, hx, rfl⟩ := List.mem_map.mp ht
      exact sml_shown hB n x (h.2 x hx)
    simp only [PyData.shown, shownAll_map]
    unfold tupleText
    rw [strLen_append, strLen_append]
    have q := piled_le (xs.map PyData.shown) _ ih
    have e1 : (("(" : String) : Str).length = 1 := rfl
    have e2 : ((if (xs.map PyData.shown).length == 1 then ",)" else ")" : String) : Str).length ≤ 2 := by split <;> decide
    have m := Nat.mul_le_mul_right (smlW B L n + 2) h.1
    have j : (Str.join ", " (xs.map PyData.shown)).length ≤ piled (xs.map PyData.shown) := by
      by_cases z : xs.map PyData.shown = []
      · rw [z]; decide
      · have := join_length_add _ z; omega
    simp only [List.length_map] at q
    simp only [smlW]
    omega
  | n, .str _, h => by cases n <;> (unfold Sml at h; exact h.elim)
  | 0, .list xs, h => by unfold Sml at h; exact h.elim
  | 0, .tuple xs, h => by unfold Sml at h; exact h.elim
  | 0, .dict xs, h => by unfold Sml at h; exact h.elim
  | n + 1, .dict xs, h => by unfold Sml at h; exact h.elim
theorem log_abs {i : Int} {B : Nat} (hB : 0 < B) (h0 : -(2 ^ B) < i) (h1 : i < 2 ^ B) : i.natAbs.log2 < B := by
  by_cases z : i = 0
  · subst z; simpa using hB
  · have e : ((2 ^ B : Nat) : Int) = 2 ^ B := by simp
    have : i.natAbs < 2 ^ B := by omega
    exact (Nat.log2_lt (by omega)).mpr this
omit [Tb] in
@[simp] theorem sml_int (B L n : Nat) (i : Int) : Sml B L n (.int i) = (i.natAbs.log2 < B) := by cases n <;> rfl
omit [Tb] in
@[simp] theorem sml_none (B L n : Nat) : Sml B L n .none = True := by cases n <;> rfl
omit [Tb] in
@[simp] theorem sml_bool (B L n : Nat) (b : Bool) : Sml B L n (.bool b) = True := by cases n <;> rfl
omit [Tb] in
@[simp] theorem sml_list (B L n : Nat) (xs : List PyData) : Sml B L (n + 1) (.list xs) = (xs.length ≤ L ∧ ∀ x ∈ xs, Sml B L n x) := rfl
omit [Tb] in
@[simp] theorem sml_tuple (B L n : Nat) (xs : List PyData) : Sml B L (n + 1) (.tuple xs) = (xs.length ≤ L ∧ ∀ x ∈ xs, Sml B L n x) := rfl
/-- repr of small data -/
theorem repr_ok {B L n : Nat} {d : PyData} {X : Prop} (h : Sml B L n d) (hB : 0 < B) (hB2 : B ≤ 1920) (hn : n ≤ 60) (hw : smlW B L n ≤ 16000000) (k : X) : d.showable = true ∧ d.hasDict = false ∧ d.depth ≤ 60 ∧ d.shown.length ≤ 16000000 ∧ X :=
  ⟨sml_show hB2 n d h, sml_noDict n d h, Nat.le_trans (sml_depth n d h) hn, Nat.le_trans (sml_shown hB n d h) hw, k⟩
end DL
set_option Elab.async false
set_option linter.all false
set_option maxRecDepth 100000
set_option maxHeartbeats 4000000
namespace DL
open PySem PySem.Spec PyProof.Rows L2
variable [Tb]

/-! ### more stores -/
def wPar3 (i j k : Nat) (w : DMs) : DTS := fun E δ => w δ fun cs δ1 => ∃ c d e, cs = [c, d, e] ∧ E.nx (((δ1.set i c).set j d).set k e)
omit [Tb] in
@[simp ↓] theorem wPar3_ap (i j k : Nat) (w : DMs) (E : DEnds) (δ : DS) : wPar3 i j k w E δ = (w δ fun cs δ1 => match cs with
  | [c, d, e] => E.nx (((δ1.set i c).set j d).set k e)
  | _ => False) := by
  unfold wPar3
  congr 1; funext cs δ1
  match cs with
  | [] => simp
  | [c] => simp
  | [c, d] => simp
  | [c, d, e] => exact propext ⟨fun ⟨c', d', e', h0, h⟩ => by cases h0; exact h, fun h => ⟨c, d, e, rfl, h⟩⟩
  | c :: d :: e :: f :: r => simp
def wAsgG (w : DE) (g : DTG) : DTS := fun E δ => w δ fun o δ1 => lk o δ1 fun x δ2 => g x δ2 E.nx
omit [Tb] in
@[simp ↓] theorem wAsgG_ap (w : DE) (g : DTG) (E : DEnds) (δ : DS) : wAsgG w g E δ = (w δ fun o δ1 => lk o δ1 fun x δ2 => g x δ2 E.nx) := rfl
section
variable {X : Cx} {pos : Pos} {e : Expr}
theorem jpar3 {i j l : Nat} {x y z : Str} {a b c : Expr} {w : DMs} {px py pz pt : Pos} {kt k2 pt2} (hc : X.calm = true) (hN : X.N.Nodup) (hi : X.N[i]? = some x) (hj : X.N[j]? = some y) (hk : X.N[l]? = some z) (hij : i ≠ j) (hik : i ≠ l) (hjk : j ≠ l) (ha : JMs X [a, b, c] w) (hx : X.env.scope.names.lookup x = some .local := by rfl) (hy : X.env.scope.names.lookup y = some .local := by rfl) (hz : X.env.scope.names.lookup z = some .local := by rfl)
    (hw : swappedStores [.Tuple [.Name x px, .Name y py, .Name z pz] kt pt] (.Tuple [a, b, c] k2 pt2) X.env = pure (some [x, y, z]) := by rfl) (hs : swapsWithSole [.Tuple [.Name x px, .Name y py, .Name z pz] kt pt] (.Tuple [a, b, c] k2 pt2) pos.line X.env = pure false := by rfl) :
    JS X (.Assign [.Tuple [.Name x px, .Name y py, .Name z pz] kt pt] (.Tuple [a, b, c] k2 pt2) pos) (wPar3 i j l w) := ps_le (ps_par3 hc hN hi hj hk hij hik hjk hx hy hz ha hw hs) fun pins s σ H D I ⟨B, G, δ, E, rel, hw, k⟩ => ⟨B, G, δ, _, rel, hw, fun vs H1 G1 cs δ1 r1 s1 rel1 hB ok1 => by
  obtain ⟨c, d, f, rfl, q⟩ := r1
  cases ok1 with
  | cons h1 d1 t1 =>
    cases t1 with
    | cons h2 d2 t2 =>
      cases t2 with
      | cons h3 d3 t3 =>
        cases t3
        rename_i v u w
        refine ⟨v, u, w, rfl, ?_⟩
        have e : fps [c, d, f] = c.fp ++ (d.fp ++ (f.fp ++ [])) := by simp [fps]
        rw [e] at rel1
        have R2 := Rel.store (i := i) rel1 (fun a m => hB a (by simp [fps, m])) (fun a m => by have := d1 a m; simpa [fps] using this) h1
        have R3 := Rel.store (i := j) R2 (fun a m => hB a (by simp [fps, m])) (fun a m => by have := d2 a m; simpa [fps] using this) h2
        have R4 := Rel.store (i := l) R3 (fun a m => hB a (by simp [fps, m])) (fun a m z => nomatch z) h3
        rw [bov_nil] at R4
        exact k.nx _ H1 G1 _ q s1 R4⟩
theorem js_asgG {tg : Expr} {w : DE} {ts : List Nat} {g : DTG} (he : JE X e w) (hg : JG X tg ts g) (hs : swapsWithSole [tg] e pos.line X.env = pure false := by rfl) (hw : swappedStores [tg] e X.env = pure none := by rfl) (h1 : (assignEach [tg] X.env).map (·.2) = [assign tg X.env] := by rfl) : JS X (.Assign [tg] e pos) (wAsgG w g) :=
  ps_le (ps_asg he hg hs hw h1) fun pins s σ H D I ⟨B, G, δ, E, rel, hw, k⟩ => ⟨B, G, δ, _, rel, hw, fun v H1 G1 o δ1 r1 s1 rel1 ok1 => by
    obtain ⟨G2, δ2, x, q, s2, rel2, dn⟩ := lk_ok rel1 ok1 r1
    exact ⟨B, G2, δ2, x, _, rel2, dn, q, fun σ' H' G' δ' r' s' rel' _ => k.nx _ _ _ _ r' (s1.trans (s2.trans s')) rel'⟩⟩
end
end DL
set_option Elab.async false
set_option linter.all false
set_option maxRecDepth 100000
set_option maxHeartbeats 4000000
namespace DL
open PySem PySem.Spec PyProof.Rows L2
variable [Tb]

/-! ### while -/
/-- W m: what holds ahead of a turn, m falling; D: what holds when the loop is left; Z: what is returned from within -/
theorem while_inv {c : DT} {b : DTS} {δ : DS} {E : DEnds} {u : Stop E} (W : Nat → DS → Prop) (D : DS → Prop) (Z : PyData → DS → Prop) (m0 : Nat) (h : W m0 δ) (hd : ∀ δ, D δ → E.nx δ) (hz : ∀ x δ, Z x δ → E.rt x δ)
    (hs : ∀ m δ, W m δ → ∀ (K N : DS → Prop) (T : PyData → DS → Prop), (∀ m' δ', m' < m → W m' δ' → K δ') → (∀ δ', D δ' → N δ') → (∀ x δ', Z x δ' → T x δ') → c δ fun k δ1 => if k = true then b { nx := K, rt := T, bk := N, ct := K } δ1 else N δ1) : whileC c b δ E u :=
  ⟨W, ⟨m0, h⟩, fun m δ w => hs m δ w _ _ _ (fun m' δ' hm w' => ⟨m', hm, w'⟩) hd hz⟩
theorem while_plain {c : DT} {b : DTS} {δ : DS} {E : DEnds} {u : Stop E} (W : Nat → DS → Prop) (D : DS → Prop) (m0 : Nat) (h : W m0 δ) (hd : ∀ δ, D δ → E.nx δ)
    (hs : ∀ m δ, W m δ → ∀ (K N : DS → Prop) (T : PyData → DS → Prop), (∀ m' δ', m' < m → W m' δ' → K δ') → (∀ δ', D δ' → N δ') → c δ fun k δ1 => if k = true then b { nx := K, rt := T, bk := N, ct := K } δ1 else N δ1) : whileC c b δ E u :=
  while_inv W D (fun _ _ => False) m0 h hd (fun _ _ h => h.elim) fun m δ w K N T hK hN _ => hs m δ w K N T hK hN
theorem numbered_zip {α : Type} (d : α → PyData) : ∀ (as : List α) (n : Nat), numbered n (as.map d) = (as.zipIdx n).map fun p => .tuple [.int (p.2 : Nat), d p.1]
  | [], n => by simp [numbered]
  | a :: as, n => by simp [numbered, numbered_zip d as (n + 1)]
end DL
set_option Elab.async false
set_option linter.all false
set_option maxRecDepth 100000
set_option maxHeartbeats 4000000
namespace DL
open PySem PySem.Spec PyProof.Rows L2
variable [Tb]
/-! ### tuple * int of any count -/
section
variable {l : Addr} {its : Array Value} {n : Nat} {dd : Option Addr} {sl : Array (Option Value)} {x : Int} {u : Tok}
theorem fits63 (lo : -(2 ^ 63) ≤ x) (hi : x < 2 ^ 63) : (decide (x < -(2 ^ 63)) || decide (x ≥ 2 ^ 63)) = false := by simp; omega
/-- the tuple itself is handed back: an empty one, or once -/
theorem mul_same (lo : -(2 ^ 63) ≤ x) (hi : x < 2 ^ 63) (same : (its.isEmpty || x == 1) = true) :
    Meets (Builtin.«tuple.__mul__» ⟨[.ref l, .int x u], []⟩) (fun _ R s => s.heap.get? l = some { cls := .type "tuple", dict := dd, data := .seq its n, slots := sl } ∧ R (.ok (.ret (Value.ref l))) s) := by
  refine .of_wp fun prog w A R => ?_
  rintro ⟨hp, gs, dr, tk, os⟩ ⟨at_l, h⟩
  have fit := fits63 lo hi
  have ix := AutoSeq1.idx_int
  wp_walk using wpAny_loadPart' at_l
  all_goals simp only [fit, same, Bool.false_eq_true, ↓reduceIte]
  wp_walk using wpAny_loadPart' at_l
  all_goals (try simp only [fit, same, Bool.false_eq_true, ↓reduceIte])
  all_goals (first | (wp_walk using wpAny_loadPart' at_l; exact ⟨_, rfl, h⟩) | exact ⟨_, rfl, h⟩)
/-- no times at all: a new empty tuple -/
theorem mul_none (lo : -(2 ^ 63) ≤ x) (le : x ≤ 0) (some' : its.isEmpty = false) :
    Meets (Builtin.«tuple.__mul__» ⟨[.ref l, .int x u], []⟩) (fun _ R s => s.heap.get? l = some { cls := .type "tuple", dict := dd, data := .seq its n, slots := sl } ∧
      R (.ok (.ret (Value.ref s.heap.objs.size))) { s with heap := s.heap.push { cls := Value.type "tuple", data := Data.seq #[] }, toks := s.toks }) := by
  refine .of_wp fun prog w A R => ?_
  rintro ⟨hp, gs, dr, tk, os⟩ ⟨at_l, h⟩
  have fit := fits63 lo (Int.lt_of_le_of_lt le (by decide))
  have once : (x == 1) = false := by simp; omega
  have ix := AutoSeq1.idx_int
  wp_walk using wpAny_loadPart' at_l
  all_goals simp only [fit, once, some', Bool.or_false, Bool.false_eq_true, ↓reduceIte]
  wp_walk using wpAny_loadPart' at_l
  all_goals (try simp only [once, some', decide_eq_true le, Bool.or_false, Bool.false_eq_true, ↓reduceIte])
  all_goals (first | (wp_walk using wpAny_loadPart' at_l; exact ⟨_, rfl, h⟩) | exact ⟨_, rfl, h⟩)
end
omit [Tb] in
/-- what `t * k` asks of a tuple's own multiplication, and no more -/
theorem mul_asks {X : Cx} {s : Shared} {l : Addr} {its : Array Value} {n : Nat} {dd : Option Addr} {sl : Array (Option Value)} {k : Int} {t : Tok} {G E : Value → Shared → Prop}
    (at_l : s.heap.get? l = some { cls := .type "tuple", dict := dd, data := .seq its n, slots := sl }) {W : Shared → Value} {f : Shared → Shared}
    (own : Meets (Builtin.«tuple.__mul__» ⟨[.ref l, .int k t], []⟩) (fun _ R s => s.heap.get? l = some { cls := .type "tuple", dict := dd, data := .seq its n, slots := sl } ∧ R (.ok (.ret (W s))) (f s))) (h : G (W s) (f s)) :
    wpAny (model X.prog X.w) X.A (binaryOp .Mult (.ref l) (.int k t)) G E s := by
  have ty : s.TypeIs (.ref l) "tuple" := ⟨_, at_l, rfl⟩
  have back := int_rmul_tuple k t l its n dd sl
  exact wpAny_binaryOp_repeat_ref (by decide) ty (typeIs_int · k t) noFill_tuple_mul F.fills_int_mul F.slot_int_rmul repeat_tuple F.slot_int_index.lookup
    (call_meets F.slot_int_rmul (typeIs_int s k t) F.entry_int_rmul (F.args_int_rmul_2 _ _) back ⟨at_l, rfl, ty, call_meets F.slot_tuple_mul ty F.entry_tuple_mul (F.args_tuple_mul_2 _ _) own ⟨at_l, h⟩⟩)
/-- t * k -/
def rRepA (K : PySem.W.Frag) : R2 := fun x y H Q => ∃ l k xs, x = .ref l ∧ y = .int k ∧ SqT K H l xs ∧ -1000 ≤ k ∧ k ≤ 1000 ∧ xs.length ≤ 1000 ∧ (xs = [] ∨ k = 1 → Q (.ref l) H) ∧ (¬ (xs = [] ∨ k = 1) → ∀ p, H p = none → Q (.ref p) (upd H p (.tup (List.replicate k.toNat xs).flatten)))
section
variable {X : Cx}
theorem op_repA : OpR X (binaryOp .Mult) (rRepA X.K) := by
  rintro pins s σ H _ _ _ _ Q I rx ry ⟨l, k, xs, rfl, rfl, isT, lo, hi, short, once, else'⟩
  by_cases c : 2 ≤ k ∧ xs ≠ []
  · exact op_repT pins s σ H _ _ _ _ Q I rx ry ⟨l, k, xs, rfl, rfl, isT, c.2, c.1, hi, short, else' (fun z => z.elim c.2 (by omega))⟩
  cases rx
  obtain ⟨tok, rfl⟩ := ry
  obtain ⟨its, vals, ⟨⟨_, dd, _, sl⟩, at_l, rfl, n, rfl⟩, _⟩ := I.tuple isT
  by_cases c' : xs = [] ∨ k = 1
  · refine mul_asks at_l (mul_same (by omega) (by omega) ?_) ⟨.ref l, _, I, rfl, once c'⟩
    rcases c' with rfl | rfl
    · cases vals; rfl
    · exact Bool.or_true _
  · have le : k ≤ 0 := by
      have : ¬ k = 1 := fun e => c' (.inr e)
      have : ¬ 2 ≤ k := fun e => c ⟨e, fun z => c' (.inl z)⟩
      omega
    have q := else' c'
    rw [Int.toNat_of_nonpos le] at q
    refine mul_asks at_l (mul_none (by omega) le ?_) ⟨.ref s.heap.objs.size, _, I.laid (t' := s.toks) (o := .tup []) (fun _ _ e => Heap.get?_push_of_some _ e) (Nat.le_refl _) ⟨by decide +kernel, _, .nil, IsTup.new _ _⟩, rfl, q _ (I.hok.fresh (Nat.le_refl _))⟩
    cases vals with
    | nil => exact absurd (.inl rfl) c'
    | cons => rfl
/-! the operator * over data -/
def pMulT : P2 := fun x y R => match x, y with
  | .int i, .int j => (CMul i j ∨ CMulW i j) ∧ R (.int (i * j))
  | .list xs, .int k => 0 ≤ k ∧ xs.length * k.toNat ≤ 1000000 ∧ k < 1000000 ∧ R (.list (List.replicate k.toNat xs).flatten)
  | .tuple xs, .int k => (-1000 ≤ k ∧ k ≤ 1000 ∧ xs.length ≤ 1000) ∧ R (.tuple (List.replicate k.toNat xs).flatten)
  | _, _ => False
theorem d_mulT : OpD X (binaryOp .Mult) pMulT := by
  intro pins s σ H x y v u Q I rx ry ⟨B, G, δ, σ', dx, dy, R, rel, bx, by', q, k⟩
  cases dx <;> cases dy <;> first | exact False.elim q | skip
  · exact d_mul pins s σ H x y v u Q I rx ry ⟨B, G, δ, σ', _, _, R, rel, bx, by', q, k⟩
  · exact d_mul pins s σ H x y v u Q I rx ry ⟨B, G, δ, σ', _, _, R, rel, bx, by', q, k⟩
  · rename_i ds i
    obtain ⟨a, vs, rfl, ha, ta⟩ := bor_tupS bx
    obtain ⟨⟨q0, q1, q2⟩, q3⟩ := q
    refine op_repA pins s σ H _ _ v u Q I rx ry ⟨a, i, vs, rfl, bor_int by', sqT_mono rel.sg (SqT.of ha), q0, q1, by rw [ta.len]; exact q2, fun hc => ?_, fun hc p np => ?_⟩
    · refine k _ H G _ q3 (Same.refl _) rel ?_
      rcases hc with rfl | rfl
      · have : ds = [] := by have := ta.len; simp at this; exact List.eq_nil_of_length_eq_zero this.symm
        subst this
        rw [List.flatten_replicate_nil] <;> exact Dn.tup ha ta
      · have e : (List.replicate (1 : Int).toNat ds).flatten = ds := by simp
        rw [e]; exact Dn.tup ha ta
    · obtain ⟨rel3, s3⟩ := rel.laid (o := .tup _) np
      exact k _ _ _ _ q3 s3 rel3 (Dn.tup upd_same ((ta.rep _).mono s3))
omit [Tb] in
@[simp ↓] theorem pMulT_ii (i : Int) (j : Int) (R : PyData → Prop) : pMulT (.int i) (.int j) R = ((CMul i j ∨ CMulW i j) ∧ R (.int (i * j))) := rfl
omit [Tb] in
@[simp ↓] theorem pMulT_li (xs : List PyData) (k : Int) (R : PyData → Prop) : pMulT (.list xs) (.int k) R = (0 ≤ k ∧ xs.length * k.toNat ≤ 1000000 ∧ k < 1000000 ∧ R (.list (List.replicate k.toNat xs).flatten)) := rfl
omit [Tb] in
@[simp ↓] theorem pMulT_ti (xs : List PyData) (k : Int) (R : PyData → Prop) : pMulT (.tuple xs) (.int k) R = ((-1000 ≤ k ∧ k ≤ 1000 ∧ xs.length ≤ 1000) ∧ R (.tuple (List.replicate k.toNat xs).flatten)) := rfl
end
end DL
set_option Elab.async false
set_option linter.all false
set_option maxRecDepth 100000
set_option maxHeartbeats 4000000
namespace DL
open PySem PySem.Spec PyProof.Rows L2
variable [Tb]
/-! ### repr of data with empty dicts within -/
mutual
/-- a value reads as data, and where a dict is read it is empty and not the table of modules -/
def RdN (h : Heap) (v : Value) : PyData → Prop
  | .dict kvs => kvs = [] ∧ ∃ a o es n, v = .ref a ∧ a ≠ sysModules ∧ h.get? a = some o ∧ o.cls = .type "dict" ∧ o.data = .dict es n ∧ es.toList = []
  | .list xs => ∃ a o vs n, v = .ref a ∧ h.get? a = some o ∧ o.cls = .type "list" ∧ o.data = .seq vs n ∧ RdNs h vs.toList xs
  | .tuple xs => ∃ a o vs n, v = .ref a ∧ h.get? a = some o ∧ o.cls = .type "tuple" ∧ o.data = .seq vs n ∧ RdNs h vs.toList xs
  | d => Reads h v d []
def RdNs (h : Heap) (vs : List Value) : List PyData → Prop
  | [] => vs = []
  | d :: ds => ∃ v us, vs = v :: us ∧ RdN h v d ∧ RdNs h us ds
end
mutual
theorem RdN.reads {h : Heap} : ∀ (d : PyData) {v : Value}, RdN h v d → ∃ as, Reads h v d as
  | .none, _, r => ⟨_, r⟩
  | .bool _, _, r => ⟨_, r⟩
  | .int _, _, r => ⟨_, r⟩
  | .str _, _, r => ⟨_, r⟩
  | .list xs, _, ⟨_, _, _, _, e, h1, h2, h3, h4⟩ => (RdNs.reads xs h4).elim fun _ q => e ▸ ⟨_, Reads.list h1 h2 h3 q⟩
  | .tuple xs, _, ⟨_, _, _, _, e, h1, h2, h3, h4⟩ => (RdNs.reads xs h4).elim fun _ q => e ▸ ⟨_, Reads.tuple h1 h2 h3 q⟩
  | .dict _, _, ⟨z, _, _, _, _, e, _, h1, h2, h3, h4⟩ => e ▸ z ▸ ⟨_, Reads.dict (kvs := []) (as := []) (bs := []) h1 h2 h3 (by rw [h4]; exact ReadsAll.nil) (by rw [h4]; exact ReadsAll.nil)⟩
theorem RdNs.reads {h : Heap} : ∀ (ds : List PyData) {vs : List Value}, RdNs h vs ds → ∃ as, ReadsAll h vs ds as
  | [], _, e => e ▸ ⟨_, ReadsAll.nil⟩
  | d :: ds, _, ⟨_, _, e, a, b⟩ => (RdN.reads d a).elim fun _ p => (RdNs.reads ds b).elim fun _ q => e ▸ ⟨_, ReadsAll.cons p q⟩
end
section
variable {prog : Program} {w : World} {h₀ : Heap}
/-- what is told of a value that reads: somewhere below it, its repr is its text -/
def Tells (prog : Program) (w : World) (h₀ : Heap) (v : Value) (d : PyData) : Prop :=
  (∃ as, Reads h₀ v d as) ∧ (d.showable = true → d.shown.length ≤ sizeLine → ∃ bs, ReadAtMost h₀ d.depth bs ∧ ReprK prog w bs h₀ d.depth v d.shown)
def TellsAll (prog : Program) (w : World) (h₀ : Heap) (vs : List Value) (ds : List PyData) : Prop :=
  (∃ as, ReadsAll h₀ vs ds as) ∧ (PyData.showableAll ds = true → (∀ t ∈ PyData.shownAll ds, t.length ≤ sizeLine) → ∃ bs, ReadAtMost h₀ (PyData.depthAll ds) bs ∧ ReprAllK prog w bs h₀ (PyData.depthAll ds) vs (PyData.shownAll ds))
/-- .. and, for a thing of the heap, by its class's own method -/
def Shows (prog : Program) (w : World) (h₀ : Heap) (v : Value) (d : PyData) : Prop :=
  d.showable = true → d.shown.length ≤ sizeLine → ∃ a T idr, v = .ref a ∧ ShowsBy prog w h₀ a d T idr
theorem TellsAll.none : TellsAll prog w h₀ [] [] := ⟨⟨_, .nil⟩, fun _ _ => ⟨[], nofun, .nil⟩⟩
theorem TellsAll.more {v : Value} {d : PyData} {vs : List Value} {ds : List PyData} (a : Tells prog w h₀ v d) (b : TellsAll prog w h₀ vs ds) : TellsAll prog w h₀ (v :: vs) (d :: ds) := by
  obtain ⟨⟨as, ra⟩, ka⟩ := a
  obtain ⟨⟨bs, rb⟩, kb⟩ := b
  refine ⟨⟨_, .cons ra rb⟩, fun sh short => ?_⟩
  rw [PyData.showableAll, Bool.and_eq_true] at sh
  rw [PyData.shownAll] at short ⊢
  obtain ⟨cs, below_c, one⟩ := ka sh.1 (short _ List.mem_cons_self)
  obtain ⟨ds', below_d, rest⟩ := kb sh.2 fun t m => short t (List.mem_cons_of_mem _ m)
  rw [PyData.depthAll]
  exact ⟨cs ++ ds', (below_c.mono (Nat.le_max_left _ _)).append (below_d.mono (Nat.le_max_right _ _)), .cons ((one.more fun _ => List.mem_append_left _).level_le (Nat.le_max_left _ _)) (rest.more_le (fun _ => List.mem_append_right _) (Nat.le_max_right _ _))⟩
theorem tells_tuple {a : Addr} {o : Obj} {vs : Array Value} {n : Nat} {xs : List PyData} (at_a : h₀.get? a = some o) (cl : o.cls = .type "tuple") (dt : o.data = .seq vs n) (all : TellsAll prog w h₀ vs.toList xs) :
    Tells prog w h₀ (.ref a) (.tuple xs) ∧ Shows prog w h₀ (.ref a) (.tuple xs) := by
  obtain ⟨⟨as, rs⟩, told⟩ := all
  have r : Reads h₀ (.ref a) (.tuple xs) as := .tuple at_a cl dt rs
  have go : (PyData.tuple xs).showable = true → (PyData.tuple xs).shown.length ≤ sizeLine → ∃ bs, ReadAtMost h₀ (PyData.depthAll xs) bs ∧ a ∉ bs ∧ ReprAllK prog w bs h₀ (PyData.depthAll xs) vs.toList (PyData.shownAll xs) := fun sh short => by
    rw [PyData.showable] at sh
    rw [PyData.shown] at short
    obtain ⟨bs, below, k⟩ := told sh fun t m => Nat.le_trans (tupleText_mem_le m) short
    exact ⟨bs, below, not_mem_of_deeper r (by rw [PyData.depth]; omega) below, k⟩
  refine ⟨⟨⟨_, r⟩, fun sh short => ?_⟩, fun sh short => ?_⟩ <;> obtain ⟨bs, below, out, k⟩ := go sh short
  · rw [PyData.depth, PyData.shown]
    exact ⟨a :: bs, ReadAtMost.cons r (by rw [PyData.depth]; omega) below, ReprK.tuple at_a cl dt out k⟩
  · refine ⟨a, "tuple", "tuple.__repr__", rfl, { slotRepr := F.slot_tuple_repr, slotStr := F.slot_tuple_str, slotFmt := F.slot_tuple_format, typeIs := fun s kept => ⟨o, kept _ _ at_a, cl⟩, call := ?_ }⟩
    intro A E s Q calm room kept done
    rw [PyData.depth] at room
    rw [PyData.shown] at done short
    exact call_tuple_reprK at_a cl dt out k calm (fun b _ => Clear.nil b) room kept done short
theorem tells_list {a : Addr} {o : Obj} {vs : Array Value} {n : Nat} {xs : List PyData} (at_a : h₀.get? a = some o) (cl : o.cls = .type "list") (dt : o.data = .seq vs n) (all : TellsAll prog w h₀ vs.toList xs) :
    Tells prog w h₀ (.ref a) (.list xs) ∧ Shows prog w h₀ (.ref a) (.list xs) := by
  obtain ⟨⟨as, rs⟩, told⟩ := all
  have r : Reads h₀ (.ref a) (.list xs) (a :: as) := .list at_a cl dt rs
  have go : (PyData.list xs).showable = true → (PyData.list xs).shown.length ≤ sizeLine → ∃ bs, ReadAtMost h₀ (PyData.depthAll xs) bs ∧ a ∉ bs ∧ ReprAllK prog w bs h₀ (PyData.depthAll xs) vs.toList (PyData.shownAll xs) := fun sh short => by
    rw [PyData.showable] at sh
    rw [PyData.shown] at short
    obtain ⟨bs, below, k⟩ := told sh fun t m => Nat.le_trans (listText_mem_le m) short
    exact ⟨bs, below, not_mem_of_deeper r (by rw [PyData.depth]; omega) below, k⟩
  have slots (call) : ShowsBy prog w h₀ a (.list xs) "list" "list.__repr__" := { slotRepr := F.slot_list_repr.toG, slotStr := F.slot_list_str, slotFmt := F.slot_list_format, typeIs := fun s kept => ⟨o, kept _ _ at_a, cl⟩, call := call }
  rcases vs with ⟨_ | ⟨v, us⟩⟩
  · cases rs
    refine ⟨⟨⟨_, r⟩, fun _ _ => ⟨[a], ReadAtMost.cons r (Nat.le_refl _) nofun, ?_⟩⟩, fun _ _ => ⟨a, _, _, rfl, slots ?_⟩⟩
    · rw [PyData.shown, PyData.shownAll, listText_nil]
      exact ReprK.listEmpty at_a cl dt
    · intro A E s Q calm room kept done
      rw [PyData.shown, PyData.shownAll, listText_nil] at done
      exact call_list_repr_empty ⟨o, kept _ _ at_a, cl⟩ (kept _ _ at_a) dt (done s.heap _ _ fun _ _ e => e)
  · have each : ∀ {bs : List Addr}, ReprAllK prog w bs h₀ (PyData.depthAll xs) (v :: us) (PyData.shownAll xs) → (PyData.shownAll xs).length = (v :: us).toArray.size ∧ ∀ (i : Nat) (y : Value), (v :: us).toArray[i]? = some y → ∃ t, (PyData.shownAll xs)[i]? = some t ∧ ReprK prog w bs h₀ (PyData.depthAll xs) y t :=
      fun k => ⟨k.length_eq, fun i y e => k.item i y (by rw [← List.getElem?_toArray]; exact e)⟩
    refine ⟨⟨⟨_, r⟩, fun sh short => ?_⟩, fun sh short => ?_⟩ <;> obtain ⟨bs, below, out, k⟩ := go sh short
    · rw [PyData.depth, PyData.shown]
      exact ⟨a :: bs, ReadAtMost.cons r (by rw [PyData.depth]; omega) below, ReprK.list at_a cl dt out (each k).1 (each k).2⟩
    · refine ⟨a, _, _, rfl, slots ?_⟩
      intro A E s Q calm room kept done
      rw [PyData.depth] at room
      rw [PyData.shown] at done short
      exact call_list_reprK at_a cl dt out (each k).1 (each k).2 calm (fun b _ => Clear.nil b) room kept done short
theorem tells_empty {a : Addr} {o : Obj} {es : Array DictEntry} {n : Nat} (other : a ≠ sysModules) (at_a : h₀.get? a = some o) (cl : o.cls = .type "dict") (dt : o.data = .dict es n) (no : es.toList = []) :
    Tells prog w h₀ (.ref a) (.dict []) ∧ Shows prog w h₀ (.ref a) (.dict []) := by
  have r : Reads h₀ (.ref a) (.dict []) [a] := Reads.dict (kvs := []) (as := []) (bs := []) at_a cl dt (by rw [no]; exact ReadsAll.nil) (by rw [no]; exact ReadsAll.nil)
  have out : (a == sysModules) = false := beq_false_of_ne other
  have entries : ReprEntriesK prog w [] h₀ 0 es.toList [] := by rw [no]; exact .nil
  have deep : (PyData.dict []).depth = 0 + 1 := by rw [PyData.depth, PyData.depthKv]
  have text : (PyData.dict []).shown = dictText [] := by rw [PyData.shown, PyData.shownKv]
  refine ⟨⟨⟨_, r⟩, fun _ _ => ⟨[a], ReadAtMost.cons r (Nat.le_refl _) nofun, ?_⟩⟩, fun _ short => ⟨a, "dict", "dict.__repr__", rfl, { slotRepr := F.slot_dict_repr, slotStr := F.slot_dict_str, slotFmt := F.slot_dict_format, typeIs := fun s kept => ⟨o, kept _ _ at_a, cl⟩, call := ?_ }⟩⟩
  · rw [deep, text]
    exact ReprK.dict at_a cl dt out List.not_mem_nil entries
  · intro A E s Q calm room kept done
    rw [deep] at room
    rw [text] at done short
    exact call_dict_reprK at_a cl dt out List.not_mem_nil entries calm (fun b _ => Clear.nil b) room kept done short
theorem tells_flat {v : Value} {d : PyData} {t : Str} (r : Reads h₀ v d []) (is : d.showable = true → d.shown.length ≤ sizeLine → ReprIs prog w v d.shown) : Tells prog w h₀ v d :=
  ⟨⟨_, r⟩, fun sh short => ⟨[], nofun, .of_is (is sh short) _ _ _⟩⟩
mutual
theorem RdN.tells : ∀ (d : PyData) {v : Value}, RdN h₀ v d → Tells prog w h₀ v d
  | .none, _, r => tells_flat (t := "") r fun _ _ => by cases r; exact ReprIs.none
  | .bool _, _, r => tells_flat (t := "") r fun _ _ => by cases r; exact ReprIs.bool _
  | .int _, _, r => tells_flat (t := "") r fun sh _ => by cases r; exact ReprIs.int _ (by simpa [PyData.showable] using sh)
  | .str _, _, r => tells_flat (t := "") r fun _ short => by cases r; exact ReprIs.str _ _ (by rw [PyData.shown] at short; exact short)
  | .list xs, _, r => by obtain ⟨a, o, vs, n, rfl, h1, h2, h3, h4⟩ := r; exact (tells_list h1 h2 h3 (RdNs.tells xs h4)).1
  | .tuple xs, _, r => by obtain ⟨a, o, vs, n, rfl, h1, h2, h3, h4⟩ := r; exact (tells_tuple h1 h2 h3 (RdNs.tells xs h4)).1
  | .dict kvs, _, r => by obtain ⟨rfl, a, o, es, n, rfl, h1, h2, h3, h4, h5⟩ := r; exact (tells_empty h1 h2 h3 h4 h5).1
theorem RdNs.tells : ∀ (ds : List PyData) {vs : List Value}, RdNs h₀ vs ds → TellsAll prog w h₀ vs ds
  | [], _, r => by cases r; exact .none
  | d :: ds, _, r => by obtain ⟨v, us, rfl, a, b⟩ := r; exact .more (RdN.tells d a) (RdNs.tells ds b)
end
theorem RdN.shows {a : Addr} : ∀ {d : PyData}, RdN h₀ (.ref a) d → Shows prog w h₀ (.ref a) d
  | .none, r => nomatch (show Reads _ _ _ _ from r)
  | .bool _, r => nomatch (show Reads _ _ _ _ from r)
  | .int _, r => nomatch (show Reads _ _ _ _ from r)
  | .str _, r => nomatch (show Reads _ _ _ _ from r)
  | .list xs, r => by obtain ⟨b, o, vs, n, e, h1, h2, h3, h4⟩ := r; cases e; exact (tells_list h1 h2 h3 (RdNs.tells xs h4)).2
  | .tuple xs, r => by obtain ⟨b, o, vs, n, e, h1, h2, h3, h4⟩ := r; cases e; exact (tells_tuple h1 h2 h3 (RdNs.tells xs h4)).2
  | .dict kvs, r => by obtain ⟨rfl, b, o, es, n, e, h1, h2, h3, h4, h5⟩ := r; cases e; exact (tells_empty h1 h2 h3 h4 h5).2
theorem repr_of_N {a : Addr} {d : PyData} {A : Around} {E : Value → Shared → Prop} {s : Shared} {Q : Value → Shared → Prop} (r : RdN s.heap (.ref a) d) (sh : d.showable = true) (short : d.shown.length ≤ sizeLine) (calm : A.guards = some []) (room : A.units + (d.depth + 1) < cLine)
    (done : ∀ h' u tk, (∀ b o, s.heap.get? b = some o → h'.get? b = some o) → Q (.str d.shown u) { s with heap := h', toks := tk }) : wpAny (model prog w) A (call (.builtin "repr") [.ref a]) Q E s := by
  obtain ⟨_, T, idr, e, S⟩ := RdN.shows (prog := prog) (w := w) r sh short
  cases e
  have in1 : A.in1.units = A.units + 1 := rfl
  exact call_repr_slot (by omega) (S.typeIs s fun _ _ e => e) S.slotRepr (S.call A.in1 E s _ calm (by omega) (fun _ _ e => e) fun h' u tk kept => ⟨_, _, rfl, done h' u tk kept⟩)
end
/-! read off what is tracked -/
section
variable {X : Cx} {pins : List (Addr × Obj)} {σ : L2.St} {H : Hp} {s : Shared}
mutual
theorem Dn.rdN (I : L2.Inv X pins σ H s) : ∀ (d : PyData) {v : V} {u : Value}, Dn X.K H v d → RelV v u → RdN s.heap u d
  | .none, _, _, h, r => by cases h; cases r; exact Reads.none
  | .bool b, _, _, h, r => by cases h; cases r; exact Reads.bool b
  | .int i, _, _, h, r => by cases h; obtain ⟨t, rfl⟩ := r; exact Reads.int i t
  | .str x, _, _, h, r => by cases h; obtain ⟨t, rfl⟩ := r; exact Reads.str x t
  | .list ds, _, _, .lst h t, r => by
    cases r
    obtain ⟨its, rv, ⟨o, n, ho, hc, _, hd⟩, _⟩ := I.list (SqL.of h)
    exact ⟨_, o, _, n, rfl, ho, hc, hd, DnL.rdN I ds t rv⟩
  | .tuple ds, _, _, .tup h t, r => by
    cases r
    obtain ⟨its, rv, ⟨o, ho, hc, n, hd⟩, _⟩ := I.tuple (SqT.of h)
    exact ⟨_, o, _, n, rfl, ho, hc, hd, DnL.rdN I ds t rv⟩
  | .dict _, _, _, .dic h n, r => by
    cases r
    obtain ⟨_, other, vs, kv, o, es, ep, ho, ⟨hc, _⟩, hd, _, hp, _⟩ := I.hok _ _ h
    cases kv
    have no : ∀ l, Pairs (mixKind X.prog X.w) l ([] : List (L2.Key × Value)) → l = [] := fun l q => by cases q; rfl
    exact ⟨rfl, _, o, es, ep, rfl, beq_eq_false_iff_ne.mp other, ho, hc, hd, no _ hp⟩
theorem DnL.rdN (I : L2.Inv X pins σ H s) : ∀ (ds : List PyData) {vs : List V} {us : List Value}, DnL X.K H vs ds → Vals vs us → RdNs s.heap us ds
  | [], _, _, h, r => by cases h; cases r; exact rfl
  | d :: ds, _, _, .cons a b, .cons r1 r2 => ⟨_, _, rfl, Dn.rdN I d a r1, DnL.rdN I ds b r2⟩
end
end

/-- repr of data, with empty dicts or not -/
def pReprN : PN := one fun x R => x.showable = true ∧ x.depth ≤ 60 ∧ x.shown.length ≤ 16000000 ∧ R (.str x.shown)
section
variable {X : Cx}
theorem c_reprN (hg : X.A.guards = some []) (hu : X.A.units + 64 < cLine) : CallD X (.builtin "repr") pReprN := by
  intro pins s σ H vs us Q I r ⟨B, G, δ, σ', ds, R, rel, b, q, k⟩
  match ds, q with
  | [d], ⟨q1, q3, q4, q⟩ =>
    obtain ⟨v, rfl, bd⟩ := b.one
    obtain ⟨u, rfl, ru⟩ := vals1 r; have dn := bd.dn rel
    have fin := k (.str d.shown) H G _ q (Same.refl _) rel (Dn.str _)
    have hsz : d.shown.length ≤ sizeLine := Nat.le_trans q4 (by decide)
    have rd := Dn.rdN I d dn ru
    have go : ∀ {x : Str} {t : Tok} {s' : Shared}, x = d.shown → Inv X pins σ H s' → EP X pins σ Q (.str x t) s' := fun {x t s'} e I' => by
      subst e
      exact ⟨.str d.shown, H, I', ⟨t, rfl⟩, fin⟩
    have big : ∀ a, u = .ref a → wpAny (model X.prog X.w) X.A (call (.builtin "repr") [u]) (EP X pins σ Q) X.xe s := fun a e => by
      subst e
      exact repr_of_N rd q1 hsz hg (by omega) fun h' u tk hk => go rfl (I.kept hk)
    cases dn with
    | non => cases ru; exact PySem.P.repr_of_none (go rfl (I.tok _))
    | bl b => cases ru; exact PySem.P.repr_of_bool (go (by cases b <;> simp [PyData.shown]) (I.tok _))
    | int i => obtain ⟨t, rfl⟩ := ru; exact PySem.P.repr_of_int (by simpa [PyData.showable] using q1) (go (by simp [PyData.shown]) (I.tok _))
    | str z => obtain ⟨t, rfl⟩ := ru; exact PySem.P.repr_of_str (go (by simp [PyData.shown]) (I.tok _)) (by simpa [PyData.shown] using hsz)
    | lst h t => cases ru; exact big _ rfl
    | tup h t => cases ru; exact big _ rfl
    | dic h n => cases ru; exact big _ rfl
end
omit [Tb] in
@[simp ↓] theorem pReprN_x (x : PyData) (R : PyData → Prop) : pReprN [x] R = (x.showable = true ∧ x.depth ≤ 60 ∧ x.shown.length ≤ 16000000 ∧ R (.str x.shown)) := rfl
end DL
set_option Elab.async false
set_option linter.all false
set_option maxRecDepth 100000
set_option maxHeartbeats 4000000
namespace DL
open PySem PySem.Spec PyProof.Rows L2
variable [Tb]
/-! ### t[::-1], t[:0:-1] of a tuple: backwards, but for the first d (none, one) -/
theorem fm_congr {α β : Type} {f g : α → Option β} : ∀ {l : List α}, (∀ x ∈ l, f x = g x) → l.filterMap f = l.filterMap g
  | [], _ => rfl
  | x :: l, h => by rw [List.filterMap_cons, List.filterMap_cons, h x (List.mem_cons_self ..), fm_congr fun y hy => h y (List.mem_cons_of_mem _ hy)]
/-- the slice's lower end, walked down to: none of it, or 0 -/
def downTo : Nat → Option Int
  | 0 => none
  | _ + 1 => some 0
section
variable {prog : Program} {w : World} {A : Around} {E : Value → Shared → Prop} {s : Shared}
theorem places_back {n d : Nat} (d1 : d ≤ 1) (le : d ≤ n) : Builtin.Slice.sliceAdjust none (downTo d) (-1) (n : Int) = ((n : Int) - 1, (d : Int) - 1) ∧ Builtin.Slice.slicePlaces ((n : Int) - 1) ((d : Int) - 1) (-1) = n - d := by
  constructor
  · rcases Nat.le_one_iff_eq_zero_or_eq_one.mp d1 with rfl | rfl
    · rfl
    · unfold Builtin.Slice.sliceAdjust; simp [downTo]; omega
  · unfold Builtin.Slice.slicePlaces
    rw [if_neg (by decide), Int.neg_neg, Int.ediv_one]
    split <;> omega
theorem applied_back {sl : Addr} {vl vu vs : Value} {n d : Nat} {Q : Int × Int × Nat → Shared → Prop} (d1 : d ≤ 1) (le : d ≤ n) (hs : s.heap.IsSliceOf sl vl vu vs) (pl : IsPart vl none) (pu : IsPart vu (downTo d)) (ps : IsPart vs (some (-1)))
    (h : Q ((n : Int) - 1, -1, n - d) s) : wpAny (model prog w) A (Builtin.Slice.sliceApplied (.ref sl) (pure (n : Int))) Q E s := by
  obtain ⟨o, at_sl, _, parts⟩ := id hs
  obtain ⟨ends, count⟩ := places_back d1 le
  have part {i : Nat} {x : Value} {G : Value → Shared → Prop} (e : #[vl, vu, vs][i]? = some x) (g : G x s) : wpAny (model prog w) A (field (.ref sl) i) G E s := wpAny_field at_sl parts e g
  have last : wpAny (model prog w) A (match Builtin.Slice.sliceAdjust none (downTo d) (-1) (n : Int) with | (lo, hi) => pure (lo, (-1 : Int), Builtin.Slice.slicePlaces lo hi (-1))) Q E s := by
    rw [ends]; dsimp only; rw [count]; exact wpAny_pure h
  delta Builtin.Slice.sliceApplied Builtin.Slice.sliceFields
  refine wpAny_bind (wpAny_bind (part rfl (wpAny_bind (part rfl (wpAny_bind (part rfl (wpAny_pure (wpAny_bind (HT.slicePart_ ps ?_)))))))))
  exact wpAny_ite_false (by decide) (wpAny_bind (HT.slicePart_ pl (wpAny_bind (HT.slicePart_ pu (wpAny_bind (wpAny_pure last))))))
theorem picks_back (xs : Array Value) (d : Nat) : ((List.range (xs.size - d)).filterMap fun (m : Nat) => xs[((xs.size : Int) - 1 + (m : Int) * (-1)).toNat]?) = (xs.toList.drop d).reverse := by
  rw [fm_congr (g := fun m => some ((xs.toList.drop d).reverse[m]?.getD .none)) fun m hm => ?_]
  · refine List.ext_getElem? fun i => ?_
    rw [show (fun m => some ((xs.toList.drop d).reverse[m]?.getD Value.none)) = some ∘ fun m => (xs.toList.drop d).reverse[m]?.getD Value.none from rfl, List.filterMap_eq_map, List.getElem?_map]
    by_cases hi : i < xs.size - d
    · rw [List.getElem?_range hi, List.getElem?_eq_getElem (by simp; exact hi)]; simp [hi]
    · rw [List.getElem?_eq_none (by simp; omega), List.getElem?_eq_none (by simp; omega)]; rfl
  · have hm := List.mem_range.mp hm
    have at_m : ((xs.size : Int) - 1 + (m : Int) * (-1)).toNat = xs.size - 1 - m := by omega
    rw [at_m, List.getElem?_eq_getElem (l := (xs.toList.drop d).reverse) (by simp; exact hm), Array.getElem?_eq_getElem (by omega)]
    simp only [List.getElem_reverse, List.getElem_drop, List.length_drop, Array.length_toList, Option.getD_some, Array.getElem_toList]
    congr 2
    omega
theorem item_back {t sl : Addr} {its : Array Value} {d : Nat} {vl vu vs : Value} {Q : Value → Shared → Prop} (d1 : d ≤ 1) (le : d ≤ its.size) (isT : IsTup s.heap t its) (isS : s.heap.IsSliceOf sl vl vu vs) (pl : IsPart vl none) (pu : IsPart vu (downTo d)) (ps : IsPart vs (some (-1)))
    (fits : its.size ≤ sizeLine) (h : Q (.ref s.heap.objs.size) { s with heap := s.heap.push { cls := .type "tuple", data := .seq (its.toList.drop d).reverse.toArray } }) : wpAny (model prog w) A (getItem (.ref t) (.ref sl)) Q E s := by
  have room : sizeOk (.seq (its.toList.drop d).reverse.toArray) := show (its.toList.drop d).reverse.toArray.size ≤ sizeLine by simp; omega
  have notAll : ¬ (((its.size : Int) - 1 == 0 && (-1 : Int) == 1 && its.size - d == its.size) = true) := by rw [show ((-1 : Int) == 1) = false from rfl, Bool.and_false, Bool.false_and]; decide
  have made {A' : Around} {G : Value → Shared → Prop} (g : G (.ref s.heap.objs.size) { s with heap := s.heap.push { cls := .type "tuple", data := .seq (its.toList.drop d).reverse.toArray } }) :
      wpAny (model prog w) A' (Builtin.«tuple.__getitem__» ⟨[.ref t, .ref sl], []⟩) (fun fin z => ∃ v, fin = .done (.ret v) ∧ G v z) E s := by
    refine wpAny_bind (m := Builtin.Tuple.tupleItemsOf (.ref t)) (tupleItemsOf_ isT (wpAny_bind (wpAny_typeOf (show s.TypeIs (.ref sl) "slice" from isS.imp fun _ z => ⟨z.1, z.2.1⟩) ?_)))
    refine wpAny_ite_true (by decide) (wpAny_bind (applied_back d1 le isS pl pu ps (wpAny_ite_false (decide_eq_false notAll) ?_)))
    have same := congrArg List.toArray (picks_back its d)
    show wpAny _ _ (Builtin.Tuple.tupleExact ((List.range (its.size - d)).filterMap fun (m : Nat) => its[((its.size : Int) - 1 + (m : Int) * (-1)).toNat]?).toArray >>= _) _ _ s
    rw [same]
    exact wpAny_bind (m := Builtin.Tuple.tupleExact _) (wpAny_newObj_type (wpAny_pure ⟨_, rfl, g⟩) room)
  exact wpAny_getItem_slot isT.typeIs (by decide) slot_tuple_getitem (wpAny_call_entry slot_tuple_getitem isT.typeIs entry_tuple_getitem (made h) (args_tuple_getitem _ _))
end
section
variable {X : Cx}
def tBack (K : PySem.W.Frag) (d : Nat) (te : TE) : TE := fun σ H Q => te σ H fun x H1 => ∃ a xs, x = .ref a ∧
  ((d = 0 ∧ SqL K H1 a xs ∧ ∀ p, H1 p = none → Q (.ref p) (upd H1 p (.lst xs.reverse))) ∨ (SqT K H1 a xs ∧ d ≤ xs.length ∧ ∀ p, H1 p = none → Q (.ref p) (upd H1 p (.tup (xs.drop d).reverse))))
theorem vals_drop {xs : List V} {us : List Value} (r : Vals xs us) (d : Nat) : Vals (xs.drop d) (us.drop d) := r.drop d
theorem pe_back {e : Expr} {up : Option Expr} {te : TE} {tU : TO} {d k : Nat} {p1 p2 p3 pos : Pos} (d1 : d ≤ 1) (he : PE X e te) (hup : PO X up tU) (low : ∀ σ H (Q : Option Int → Hp → Prop), Q (downTo d) H → tU σ H Q) :
    PE X (.Subscript e (.Slice none up (some (.UnaryOp .USub (.Constant (.int 1) k p1) p2)) p3) pos) (tBack X.K d te) where
  run pins s σ H Q I h := by
    have minus : PO X (some (.UnaryOp .USub (.Constant (.int 1) k p1) p2)) (tPart (tUn (rU fun i => .int (-i)) (tC (.int 1)))) := po_some (pe_un un_neg pe_int)
    refine Subscript_ (wpAny_mono (he.run pins s σ H _ I h) ?_ fun _ _ z => z)
    rintro _ s1 ⟨_, H1, I1, r1, a, xs, rfl, q⟩
    cases r1
    refine wpAny_Slice (wpAny_mono (po_none.run pins s1 σ H1 (fun o H2 => o = none ∧ H2 = H1) I1 ⟨rfl, rfl⟩) ?_ fun _ _ z => z)
    rintro vl s2 ⟨_, _, I2, pl, rfl, rfl⟩
    refine wpAny_mono (hup.run pins s2 σ _ (fun o H3 => o = downTo d ∧ H3 = _) I2 (low _ _ _ ⟨rfl, rfl⟩)) ?_ fun _ _ z => z
    rintro vu s3 ⟨_, _, I3, pu, rfl, rfl⟩
    refine wpAny_mono (minus.run pins s3 σ _ (fun o H4 => o = some (-1) ∧ H4 = _) I3 ⟨1, rfl, -1, rfl, rfl, rfl⟩) ?_ fun _ _ z => z
    rintro vs ⟨hp, gs, dr, tk, os⟩ ⟨_, _, I4, ps, rfl, rfl⟩
    have I5 := I4.kept (t' := tk) (h' := hp.push { cls := .type "slice", data := .fields #[vl, vu, vs] }) fun _ _ z => Heap.get?_push_of_some _ z
    have isS := Heap.IsSliceOf.new hp vl vu vs
    have new {o : Obj} {b : Addr} {u : Obj} (z : (hp.push { cls := .type "slice", data := .fields #[vl, vu, vs] }).get? b = some u) : ((hp.push { cls := .type "slice", data := .fields #[vl, vu, vs] }).push o).get? b = some u := Heap.get?_push_of_some _ z
    have tail {id : String} {T : String} (ty : Shared.TypeIs ⟨hp.push { cls := .type "slice", data := .fields #[vl, vu, vs] }, gs, dr, tk, os⟩ (.ref a) T) (look : typeLookup (.type T) "__getitem__" = pure (some (.builtin id))) {G : Value → Shared → Prop}
        (g : wpAny (model X.prog X.w) X.A (getItem (.ref a) (.ref hp.objs.size)) G X.xe ⟨hp.push { cls := .type "slice", data := .fields #[vl, vu, vs] }, gs, dr, tk, os⟩) :
        wpAny (model X.prog X.w) X.A (subscriptTail e (.Slice none up (some (.UnaryOp .USub (.Constant (.int 1) k p1) p2)) p3) (.ref a) (.ref hp.objs.size)) G X.xe ⟨hp.push { cls := .type "slice", data := .fields #[vl, vu, vs] }, gs, dr, tk, os⟩ :=
      tail_any (ops := [.ref a, .ref hp.objs.size]) ty look g (by with_unfolding_all rfl)
    rcases q with ⟨rfl, isL, q⟩ | ⟨isT, le, q⟩
    · obtain ⟨its, r, at_a, fits⟩ := I5.list isL
      have len := r.length
      refine tail at_a.isList.typeIs PySem.slot_list_getitem.lookup (wpAny_getItem_list_slice at_a.isList isS pl pu ps (by decide) ?_ (by rw [List.size_toArray]; omega))
      rw [show downTo 0 = none from rfl, PySem.W.krv_pick]
      exact ⟨.ref _, _, I5.laid (t' := tk) (o := .lst xs.reverse) (fun _ _ => new) (Nat.le_refl _) ⟨by simpa using fits, _, 0, r.reverse, Heap.get?_push_size _ rfl⟩, rfl, q _ (I5.hok.fresh (Nat.le_refl _))⟩
    · obtain ⟨its, r, at_a, fits⟩ := I5.tuple isT
      have len := r.length
      refine tail at_a.typeIs PyProof.Rows.slot_tuple_getitem.lookup (item_back d1 (by rw [List.size_toArray]; omega) at_a isS pl pu ps (by rw [List.size_toArray]; omega) ?_)
      exact ⟨.ref _, _, I5.laid (t' := tk) (o := .tup (xs.drop d).reverse) (fun _ _ => new) (Nat.le_refl _) ⟨by simp; omega, _, (vals_drop r d).reverse, IsTup.new _ _⟩, rfl, q _ (I5.hok.fresh (Nat.le_refl _))⟩
/-- x[::-1] of a list or a tuple -/
def revD (x : PyData) (k : PyData → Prop) : Prop := match x with
  | .list ds => k (.list ds.reverse)
  | .tuple ds => k (.tuple ds.reverse)
  | _ => False
omit [Tb] in
@[simp ↓] theorem revD_l (ds : List PyData) (k : PyData → Prop) : revD (.list ds) k = k (.list ds.reverse) := rfl
omit [Tb] in
@[simp ↓] theorem revD_t (ds : List PyData) (k : PyData → Prop) : revD (.tuple ds) k = k (.tuple ds.reverse) := rfl
def wRevA (w : DE) : DE := fun δ R => w δ fun o δ1 => use o δ1 fun x => revD x fun z => R (.d z) δ1
omit [Tb] in
@[simp ↓] theorem wRevA_ap (w : DE) (δ : DS) (R : Opd → DS → Prop) : wRevA w δ R = (w δ fun o δ1 => use o δ1 fun x => revD x fun z => R (.d z) δ1) := rfl
theorem je_revA {e : Expr} {w : DE} {p1 p2 p3 pos : Pos} {k1} (h : JE X e w) : JE X (.Subscript e (.Slice none none (some (.UnaryOp .USub (.Constant (.int 1) k1 p1) p2)) p3) pos) (wRevA w) :=
  pe_le (pe_back (Nat.zero_le 1) h po_none fun _ _ _ q => q) fun pins s σ H Q I ⟨B, G, δ, R, rel, hw, k⟩ => ⟨B, G, δ, _, rel, hw, fun v H1 G1 o δ1 r1 s1 rel1 ok1 => by
    obtain ⟨d, q, bd⟩ := use_ok rel1 ok1 r1
    cases d with
    | list ds =>
      obtain ⟨a, ws, rfl, ha, ta⟩ := bor_lst rel1 bd
      refine ⟨a, ws, rfl, .inl ⟨rfl, SqL.of ha, fun p np => ?_⟩⟩
      obtain ⟨rel3, s3⟩ := rel1.laid (o := .lst ws.reverse) np
      exact k _ _ _ _ _ q (s1.trans s3) rel3 (Dn.lst upd_same (ta.rev.mono s3))
    | tuple ds =>
      obtain ⟨a, ws, rfl, ha, ta⟩ := bor_tup bd
      refine ⟨a, ws, rfl, .inr ⟨sqT_mono rel1.sg ha, Nat.zero_le _, fun p np => ?_⟩⟩
      obtain ⟨rel3, s3⟩ := rel1.laid (o := .tup ws.reverse) np
      exact k _ _ _ _ _ q (s1.trans s3) rel3 (Dn.tup upd_same (ta.rev.mono s3))
    | _ => exact False.elim q⟩
/-! ### True + 1 -/
def pAddB : P2 := fun x y R => match x, y with
  | .bool b, .int j => R (.int ((if b = true then 1 else 0) + j))
  | x, y => pAdd x y R
def pSubB : P2 := fun x y R => match x, y with
  | .bool b, .int j => R (.int ((if b = true then 1 else 0) - j))
  | x, y => pSub x y R
theorem d_addB : OpD X (binaryOp .Add) pAddB := by
  intro pins s σ H x y v u Q I rx ry ⟨B, G, δ, σ', dx, dy, R, rel, bx, by', q, k⟩
  by_cases c : ∃ b j, dx = .bool b ∧ dy = .int j
  · obtain ⟨b, j, rfl, rfl⟩ := c
    obtain rfl := bor_bool bx
    obtain rfl := bor_int by'
    cases rx
    obtain ⟨t, rfl⟩ := ry
    exact IntBool.add_bool_int ⟨.int _, H, I.tok _, ⟨_, rfl⟩, k _ H G _ q (Same.refl _) rel (Dn.int _)⟩
  · refine d_add pins s σ H x y v u Q I rx ry ⟨B, G, δ, σ', dx, dy, R, rel, bx, by', ?_, k⟩
    unfold pAddB at q
    split at q
    · exact absurd ⟨_, _, rfl, rfl⟩ c
    · exact q
theorem d_subB : OpD X (binaryOp .Sub) pSubB := by
  intro pins s σ H x y v u Q I rx ry ⟨B, G, δ, σ', dx, dy, R, rel, bx, by', q, k⟩
  by_cases c : ∃ b j, dx = .bool b ∧ dy = .int j
  · obtain ⟨b, j, rfl, rfl⟩ := c
    obtain rfl := bor_bool bx
    obtain rfl := bor_int by'
    cases rx
    obtain ⟨t, rfl⟩ := ry
    exact IntBool.sub_bool_int ⟨.int _, H, I.tok _, ⟨_, rfl⟩, k _ H G _ q (Same.refl _) rel (Dn.int _)⟩
  · refine d_sub pins s σ H x y v u Q I rx ry ⟨B, G, δ, σ', dx, dy, R, rel, bx, by', ?_, k⟩
    unfold pSubB at q
    split at q
    · exact absurd ⟨_, _, rfl, rfl⟩ c
    · exact q
omit [Tb] in
@[simp ↓] theorem pAddB_bi (b : Bool) (j : Int) (R : PyData → Prop) : pAddB (.bool b) (.int j) R = R (.int ((if b = true then 1 else 0) + j)) := rfl
omit [Tb] in
@[simp ↓] theorem pAddB_ii (i : Int) (j : Int) (R : PyData → Prop) : pAddB (.int i) (.int j) R = (R (.int (i + j))) := rfl
omit [Tb] in
@[simp ↓] theorem pAddB_ss (a : Str) (b : Str) (R : PyData → Prop) : pAddB (.str a) (.str b) R = (a.length + b.length ≤ 1000000 ∧ R (.str (a ++ b))) := rfl
omit [Tb] in
@[simp ↓] theorem pAddB_tt (xs : List PyData) (ys : List PyData) (R : PyData → Prop) : pAddB (.tuple xs) (.tuple ys) R = (xs.length + ys.length ≤ 1000000 ∧ R (.tuple (xs ++ ys))) := rfl
omit [Tb] in
@[simp ↓] theorem pAddB_ll (xs : List PyData) (ys : List PyData) (R : PyData → Prop) : pAddB (.list xs) (.list ys) R = (xs.length + ys.length ≤ 1000000 ∧ R (.list (xs ++ ys))) := rfl
omit [Tb] in
@[simp ↓] theorem pSubB_bi (b : Bool) (j : Int) (R : PyData → Prop) : pSubB (.bool b) (.int j) R = R (.int ((if b = true then 1 else 0) - j)) := rfl
omit [Tb] in
@[simp ↓] theorem pSubB_ii (i : Int) (j : Int) (R : PyData → Prop) : pSubB (.int i) (.int j) R = (R (.int (i - j))) := rfl
end
end DL
namespace DL
open PySem PySem.Spec PyProof.Rows L2
variable [Tb]
/-! ### str of ints, bools, texts -/
def pStrB : PN := one fun x R => match x with
  | .int i => i.natAbs.log2 < 1920 ∧ R (.str (toString i))
  | .bool b => R (.str (if b then ("True" : Str) else ("False" : Str)))
  | .str z => R (.str z)
  | _ => False
section
variable {X : Cx}
theorem c_strB : CallD X (.type "str") pStrB := by
  intro pins s σ H vs us Q I r ⟨B, G, δ, σ', ds, R, rel, b, q, k⟩
  match ds, q with
  | [d], q =>
    obtain ⟨v, rfl, bd⟩ := b.one
    cases d with
    | int i => obtain rfl := bor_int bd; exact call_str_int pins s σ H _ us Q I r ⟨i, rfl, q.1, k _ H G _ q.2 (Same.refl _) rel (Dn.str _)⟩
    | str z => obtain rfl := bor_str bd; exact SkE.call_str_str pins s σ H _ us Q I r ⟨z, rfl, k _ H G _ q (Same.refl _) rel (Dn.str _)⟩
    | bool kb =>
      obtain rfl := bor_bool bd
      obtain ⟨u, rfl, ru⟩ := vals1 r
      cases ru
      exact PySem.P.str_of_bool ⟨.str _, H, I.tok _, ⟨_, rfl⟩, k (.str (if kb then ("True" : Str) else ("False" : Str))) H G _ q (Same.refl _) rel (Dn.str _)⟩
    | _ => exact False.elim q
omit [Tb] in
@[simp ↓] theorem pStrB_i (i : Int) (R : PyData → Prop) : pStrB [.int i] R = (i.natAbs.log2 < 1920 ∧ R (.str (toString i))) := rfl
omit [Tb] in
@[simp ↓] theorem pStrB_b (b : Bool) (R : PyData → Prop) : pStrB [.bool b] R = R (.str (if b then ("True" : Str) else ("False" : Str))) := rfl
omit [Tb] in
@[simp ↓] theorem pStrB_s (z : Str) (R : PyData → Prop) : pStrB [.str z] R = R (.str z) := rfl
end
/-! ### a def that calls itself -/
section
variable {P : Program} {w : World} {K : PySem.W.Frag} {mg : Str → Option Value} {base : Heap} {CX : CXT} {f : Addr} {fd : FuncData} {ps : List Str} {k : Nat}
theorem fnG_none {sp : DSp} (h : ∀ cs R, ¬ sp cs R) : FnG P w K mg base CX k f fd ps (liftSp K sp) :=
  ⟨fun vs H Q E ⟨_, _, cs, R, _, hs, _⟩ => absurd hs (h cs R), fun _ _ _ _ _ _ _ _ _ _ _ _ _ ⟨_, _, cs, R, _, hs, _⟩ => absurd hs (h cs R)⟩
end
end DL
set_option Elab.async false
set_option linter.all false
set_option maxRecDepth 100000
set_option maxHeartbeats 4000000
namespace DL
open PySem PySem.Spec PyProof.Rows L2
variable [Tb]
/-! ### sorted of data -/
/-- upwards -/
abbrev leD : PyData → PyData → Bool := W.dataLe false id
def sortD (ds : List PyData) : List PyData := ds.mergeSort leD
def pSorted : PN := one fun x R => match x with
  | .list ds => W.AllAlike ds ∧ W.Sortable ds ∧ ds.length ≤ 1000000 ∧ (∀ d ∈ ds, d.depth ≤ 50) ∧ R (.list (sortD ds))
  | _ => False
section
variable {X : Cx}
theorem each_zip {K : PySem.W.Frag} {G : Hp} : ∀ {vs : List V} {us : List Value} {ds : List PyData}, Vals vs us → DnL K G vs ds → W.EachIs (fun u (b : V × PyData) => RelV b.1 u ∧ Dn K G b.1 b.2) us (vs.zip ds)
  | _, _, _, .nil, .nil => .nil
  | _, _, _, .cons r t, .cons a b => .cons ⟨r, a⟩ (each_zip t b)
theorem each_unzip {K : PySem.W.Frag} {G : Hp} : ∀ {us : List Value} {bs : List (V × PyData)}, W.EachIs (fun u (b : V × PyData) => RelV b.1 u ∧ Dn K G b.1 b.2) us bs → Vals (bs.map Prod.fst) us ∧ DnL K G (bs.map Prod.fst) (bs.map Prod.snd)
  | _, _, .nil => ⟨.nil, .nil⟩
  | _, _, .cons h t => ⟨.cons h.1 (each_unzip t).1, .cons h.2 (each_unzip t).2⟩
theorem zip_snd : ∀ {α β : Type} {vs : List α} {ds : List β}, vs.length = ds.length → (vs.zip ds).map Prod.snd = ds
  | _, _, [], [], _ => rfl
  | _, _, _ :: _, _ :: _, h => by
    rw [List.zip_cons_cons, List.map_cons, zip_snd (Nat.succ.inj h)]
theorem sort_snd (bs : List (V × PyData)) : (bs.mergeSort (W.dataLe false Prod.snd)).map Prod.snd = sortD (bs.map Prod.snd) :=
  List.map_mergeSort fun a _ b _ => rfl
theorem c_sorted (hu : X.A.units + 64 < cLine) : CallD X (.builtin "sorted") pSorted := by
  intro pins s σ H vs us Q I r ⟨B, G, δ, σ', ds, R, rel, b, q, k⟩
  match ds, q with
  | [d], q =>
    obtain ⟨v, rfl, bd⟩ := b.one
    cases d with
    | list xs =>
      obtain ⟨q1, q2, q3, q4, q⟩ := q
      obtain ⟨a, ws, rfl, ha, ta⟩ := bor_lst rel bd
      obtain ⟨u, rfl, ru⟩ := vals1 r
      cases ru
      obtain ⟨its, rv, hl, hz⟩ := I.list (SqL.of ha)
      have e0 := each_zip rv ta
      have ln : ws.length = xs.length := ta.len
      have es : (ws.zip xs).map Prod.snd = xs := zip_snd ln
      refine W.sorted_data (enc := Prod.snd) (bs := ws.zip xs) hl.isList e0 (e0.mono fun u b hb => (Dn.rdN I b.2 (hb.2.mono rel.sg) hb.1).reads) (by rw [es]; exact q1) (by rw [es]; exact q2) ?_ ?_ ?_
      · rw [List.length_zip, ln, Nat.min_self]
        exact Nat.le_trans q3 (by decide)
      · intro b hb
        have := q4 b.2 (List.of_mem_zip hb).2
        omega
      · intro out ho eo
        obtain ⟨n, hn⟩ := sortedAll_at s.heap its (List.toArray out)
        obtain ⟨v1, d1⟩ := each_unzip eo
        have np : H (s.heap.objs.size + 1) = none := I.hok.fresh (Nat.le_succ _)
        rw [sort_snd, es] at d1
        generalize hb : (List.mergeSort (ws.zip xs) (W.dataLe false Prod.snd)).map Prod.fst = nb at v1 d1
        obtain ⟨rel3, s3⟩ := rel.laid (o := .lst nb) np
        have lb : nb.length ≤ sizeLine := by
          rw [← hb, List.length_map, List.length_mergeSort, List.length_zip, ln, Nat.min_self]
          exact Nat.le_trans q3 (by decide)
        exact ⟨.ref _, upd H _ (.lst nb), I.laid (o := .lst nb) (t' := s.toks) (fun _ _ => sortedAll_old) (Nat.le_succ _) ⟨lb, out, n, v1, hn⟩, rfl, k _ _ _ _ q s3 rel3 (Dn.lst upd_same (DnL.mono s3 _ d1))⟩
    | _ => exact False.elim q
end
omit [Tb] in
@[simp ↓] theorem pSorted_l (ds : List PyData) (R : PyData → Prop) : pSorted [.list ds] R = (W.AllAlike ds ∧ W.Sortable ds ∧ ds.length ≤ 1000000 ∧ (∀ d ∈ ds, d.depth ≤ 50) ∧ R (.list (sortD ds))) := rfl
end DL
set_option Elab.async false
set_option linter.all false
set_option maxRecDepth 100000
set_option maxHeartbeats 4000000
namespace DL
open PySem PySem.Spec PyProof.Rows L2
variable [Tb]
/-! ### max, min of lists and tuples of ints -/
def pMaxS : PN := one fun x R => match x with
  | .list ds => ∃ ns : List Int, ds = ns.map PyData.int ∧ 0 < ns.length ∧ ∀ m, m ∈ ns → (∀ y ∈ ns, y ≤ m) → R (.int m)
  | .tuple ds => ∃ ns : List Int, ds = ns.map PyData.int ∧ 0 < ns.length ∧ ∀ m, m ∈ ns → (∀ y ∈ ns, y ≤ m) → R (.int m)
  | _ => False
def pMinS : PN := one fun x R => match x with
  | .list ds => ∃ ns : List Int, ds = ns.map PyData.int ∧ 0 < ns.length ∧ ∀ m, m ∈ ns → (∀ y ∈ ns, m ≤ y) → R (.int m)
  | .tuple ds => ∃ ns : List Int, ds = ns.map PyData.int ∧ 0 < ns.length ∧ ∀ m, m ∈ ns → (∀ y ∈ ns, m ≤ y) → R (.int m)
  | _ => False
theorem alike_ints (ns : List Int) : W.AlikeAll (ns.map PyData.int) := ⟨fun x hx y hy => by
  obtain ⟨a, _, rfl⟩ := List.mem_map.mp hx
  obtain ⟨b, _, rfl⟩ := List.mem_map.mp hy
  rfl, fun x hx => by
  obtain ⟨a, _, rfl⟩ := List.mem_map.mp hx
  intro h; cases h⟩
theorem foldl_max_mem : ∀ (n : Int) (ns : List Int), ns.foldl max n ∈ n :: ns ∧ ∀ y ∈ n :: ns, y ≤ ns.foldl max n
  | n, [] => ⟨by simp, by simp⟩
  | n, m :: ns => by
    obtain ⟨h1, h2⟩ := foldl_max_mem (max n m) ns
    rw [List.foldl_cons]
    refine ⟨?_, fun y hy => ?_⟩
    · rcases List.mem_cons.mp h1 with e | e
      · rw [e]
        by_cases c : n ≤ m
        · rw [Int.max_eq_right c]; simp
        · rw [Int.max_eq_left (by omega)]; simp
      · exact List.mem_cons_of_mem _ (List.mem_cons_of_mem _ e)
    · have h3 := h2 (max n m) (List.mem_cons_self ..)
      rcases List.mem_cons.mp hy with rfl | hy
      · have := Int.le_max_left y m; omega
      · rcases List.mem_cons.mp hy with rfl | hy
        · have := Int.le_max_right n y; omega
        · exact h2 y (List.mem_cons_of_mem _ hy)
theorem foldl_min_mem : ∀ (n : Int) (ns : List Int), ns.foldl min n ∈ n :: ns ∧ ∀ y ∈ n :: ns, ns.foldl min n ≤ y
  | n, [] => ⟨by simp, by simp⟩
  | n, m :: ns => by
    obtain ⟨h1, h2⟩ := foldl_min_mem (min n m) ns
    rw [List.foldl_cons]
    refine ⟨?_, fun y hy => ?_⟩
    · rcases List.mem_cons.mp h1 with e | e
      · rw [e]
        by_cases c : n ≤ m
        · rw [Int.min_eq_left c]; simp
        · rw [Int.min_eq_right (by omega)]; simp
      · exact List.mem_cons_of_mem _ (List.mem_cons_of_mem _ e)
    · have h3 := h2 (min n m) (List.mem_cons_self ..)
      rcases List.mem_cons.mp hy with rfl | hy
      · have := Int.min_le_left y m; omega
      · rcases List.mem_cons.mp hy with rfl | hy
        · have := Int.min_le_right n y; omega
        · exact h2 y (List.mem_cons_of_mem _ hy)
section
variable {X : Cx}
theorem rdNs_reads {h : Heap} {vs : List Value} {ds : List PyData} (r : RdNs h vs ds) : ∃ as, ReadsAll h vs ds as := RdNs.reads ds r
theorem reads_int {h : Heap} {v : Value} {d : PyData} {as : List Addr} {n : Int} {t : Tok} (r : Reads h v d as) (e : v = .int n t) : d = .int n := by
  subst e; cases r; rfl
theorem int_at {ns : List Int} {us : List Value} (r : Vals (ns.map V.int) us) {i : Nat} {v : Value} (h : us[i]? = some v) : ∃ n t, v = .int n t ∧ n ∈ ns := by
  have hl := r.length
  have hi : i < us.length := (List.getElem?_eq_some_iff.mp h).1
  have hi2 : i < ns.length := by have := hl; rw [List.length_map] at this; omega
  have h2 : (ns.map V.int)[i]? = some (.int ns[i]) := by rw [List.getElem?_map, List.getElem?_eq_getElem hi2]; rfl
  obtain ⟨u, hu, ru⟩ := Vals.get r h2
  rw [h] at hu; cases hu
  obtain ⟨t, rfl⟩ := ru
  exact ⟨_, t, rfl, List.getElem_mem hi2⟩
theorem c_maxS (hc : X.calm = true) (hu : X.A.units + 64 < cLine) : CallD X (.builtin "max") pMaxS := by
  intro pins s σ H vs us Q I r ⟨B, G, δ, σ', ds, R, rel, b, q, k⟩
  match ds, q with
  | [d], q =>
    cases d with
    | list xs => exact c_max hc pins s σ H vs us Q I r ⟨B, G, δ, σ', [.list xs], R, rel, b, q, k⟩
    | tuple xs =>
      obtain ⟨v, rfl, bd⟩ := b.one
      obtain ⟨a, ws, rfl, ha, ta⟩ := bor_tup bd
      obtain ⟨ns, rfl, q1, q⟩ := q
      obtain rfl := ta.toInts
      obtain ⟨u, rfl, ru⟩ := vals1 r
      cases ru
      obtain ⟨its, rv, p, hz⟩ := I.tuple (sqT_mono rel.sg ha)
      obtain ⟨as, ra⟩ := rdNs_reads (DnL.rdN I (ns.map PyData.int) (ta.mono rel.sg) rv)
      match ns, q1 with
      | n :: ns, _ =>
        refine W.max_tuple_data (vs := its.toArray) (x := .int n) (xs := ns.map PyData.int) (as := as) (I.ok.hd hc) p (by simpa using ra) (alike_ints (n :: ns)) ?_ fun i v h' tk bs hi hr hk => ?_
        · have := depth_ints (n :: ns)
          rw [List.map_cons] at this
          rw [this]; omega
        · obtain ⟨m, t, rfl, hm⟩ := int_at rv (by simpa using hi)
          rw [W.maxD_ints] at hr
          have e := reads_int hr rfl
          cases e
          have := foldl_max_mem n ns
          exact ⟨.int _, H, I.kept hk, ⟨_, rfl⟩, k _ H G _ (q _ this.1 this.2) (Same.refl _) rel (Dn.int _)⟩
    | _ => exact False.elim q
theorem c_minS (hc : X.calm = true) (hu : X.A.units + 64 < cLine) : CallD X (.builtin "min") pMinS := by
  intro pins s σ H vs us Q I r ⟨B, G, δ, σ', ds, R, rel, b, q, k⟩
  match ds, q with
  | [d], q =>
    cases d with
    | list xs => exact c_min hc pins s σ H vs us Q I r ⟨B, G, δ, σ', [.list xs], R, rel, b, q, k⟩
    | tuple xs =>
      obtain ⟨v, rfl, bd⟩ := b.one
      obtain ⟨a, ws, rfl, ha, ta⟩ := bor_tup bd
      obtain ⟨ns, rfl, q1, q⟩ := q
      obtain rfl := ta.toInts
      obtain ⟨u, rfl, ru⟩ := vals1 r
      cases ru
      obtain ⟨its, rv, p, hz⟩ := I.tuple (sqT_mono rel.sg ha)
      obtain ⟨as, ra⟩ := rdNs_reads (DnL.rdN I (ns.map PyData.int) (ta.mono rel.sg) rv)
      match ns, q1 with
      | n :: ns, _ =>
        refine W.min_tuple_data (vs := its.toArray) (x := .int n) (xs := ns.map PyData.int) (as := as) (I.ok.hd hc) p (by simpa using ra) (alike_ints (n :: ns)) ?_ fun i v h' tk bs hi hr hk => ?_
        · have := depth_ints (n :: ns)
          rw [List.map_cons] at this
          rw [this]; omega
        · obtain ⟨m, t, rfl, hm⟩ := int_at rv (by simpa using hi)
          rw [W.minD_ints] at hr
          have e := reads_int hr rfl
          cases e
          have := foldl_min_mem n ns
          exact ⟨.int _, H, I.kept hk, ⟨_, rfl⟩, k _ H G _ (q _ this.1 this.2) (Same.refl _) rel (Dn.int _)⟩
    | _ => exact False.elim q
end
omit [Tb] in
@[simp ↓] theorem pMaxS_l (ds : List PyData) (R : PyData → Prop) : pMaxS [.list ds] R = onIs ds (fun ns => 0 < ns.length ∧ ∀ m, m ∈ ns → (∀ y ∈ ns, y ≤ m) → R (.int m)) .mk := rfl
omit [Tb] in
@[simp ↓] theorem pMinS_l (ds : List PyData) (R : PyData → Prop) : pMinS [.list ds] R = onIs ds (fun ns => 0 < ns.length ∧ ∀ m, m ∈ ns → (∀ y ∈ ns, m ≤ y) → R (.int m)) .mk := rfl
omit [Tb] in
@[simp ↓] theorem pMaxS_t (ds : List PyData) (R : PyData → Prop) : pMaxS [.tuple ds] R = onIs ds (fun ns => 0 < ns.length ∧ ∀ m, m ∈ ns → (∀ y ∈ ns, y ≤ m) → R (.int m)) .mk := rfl
omit [Tb] in
@[simp ↓] theorem pMinS_t (ds : List PyData) (R : PyData → Prop) : pMinS [.tuple ds] R = onIs ds (fun ns => 0 < ns.length ∧ ∀ m, m ∈ ns → (∀ y ∈ ns, m ≤ y) → R (.int m)) .mk := rfl
end DL
set_option Elab.async false
set_option linter.all false
set_option maxRecDepth 100000
set_option maxHeartbeats 4000000
namespace DL
open PySem PySem.Spec PyProof.Rows L2
variable [Tb]
/-! ### a def that gives away a list of its own: its last statement returns the slot i -/
def upSM (K : PySem.W.Frag) (i : Nat) (w : DTS) : TS := fun D σ H => ∃ B G δ E, Rel K B G δ σ H ∧ w E δ ∧ (∀ σ' H' G' δ', E.nx δ' → Same G G' → Rel K B G' δ' σ' H' → ∃ v, σ'[i]? = some (some v) ∧ D.rt v H') ∧ (∀ x δ', ¬ E.rt x δ') ∧ (∀ δ', ¬ E.bk δ') ∧ (∀ δ', ¬ E.ct δ')
abbrev JSsM (X : Cx) (i : Nat) (b : List Stmt) (w : DTS) : Prop := PSs X b (upSM X.K i w)
section
variable {X : Cx} {pos : Pos} {i : Nat}
theorem jsm_ret {x : Str} {px : Pos} (h : PE X (.Name x px) (tVar i)) : JSsM X i [.Return (some (.Name x px)) pos] wNext :=
  pss_le (pss_one (ps_ret h)) fun pins s σ H D I ⟨B, G, δ, E, rel, hw, k, _⟩ => by
    obtain ⟨v, hv, q⟩ := k σ H G δ hw (Same.refl _) rel
    exact ⟨v, hv, q⟩
theorem jsm_cons {st : Stmt} {rest : List Stmt} {w u : DTS} (h1 : JS X st w) (h2 : JSsM X i rest u) : JSsM X i (st :: rest) (wSeq w u) :=
  pss_le (pss_cons h1 h2) fun pins s σ H D I ⟨B, G, δ, E, rel, hw, k, n1, n2, n3⟩ =>
    ⟨B, G, δ, _, rel, hw, ⟨fun σ' H' G' δ' r sG rel' => ⟨B, G', δ', E, rel', r, fun σ2 H2 G2 δ2 r2 s2 rel2 => k σ2 H2 G2 δ2 r2 (sG.trans s2) rel2, n1, n2, n3⟩, fun v σ' H' G' x δ' r sG rel' dn => (n1 _ _ r).elim, fun σ' H' G' δ' r sG rel' => (n2 _ r).elim, fun σ' H' G' δ' r sG rel' => (n3 _ r).elim⟩⟩
end
def endsM (i : Nat) (cs : List Cell) (R : Cell → List Cell → Prop) : DEnds := { nx := fun δ => sameIo cs δ ∧ cs.length ≤ i ∧ ∃ a xs, δ[i]? = some (.ol a xs) ∧ R (.ol a xs) (outC cs δ), rt := fun _ _ => False }
section
variable {P : Program} {w : World} {K : PySem.W.Frag} {mg : Str → Option Value} {base : Heap}
theorem outC_take : ∀ {cs : List Cell} {δ : DS} {j : Nat} {c : Cell}, (outC cs δ)[j]? = some c → j < cs.length
  | [], _, _, _, h => by simp [outC] at h
  | c0 :: cs, [], _, _, h => by cases c0 <;> simp [outC] at h
  | c0 :: cs, e :: δ, 0, c, h => by simp
  | c0 :: cs, e :: δ, j + 1, c, h => by
    have h' : (outC cs δ)[j]? = some c := by cases c0 <;> simpa [outC] using h
    have := outC_take h'
    simp; omega
theorem okM {x qual : Str} {st : Stmt} {f : Addr} {fd : FuncData} {N ps : List Str} {k i : Nat} {sp : DSpM} {wb : DTS} (F : Fun K x qual st f fd) (S : FnScope N ps (defScope st)) (dl : ∀ cs R, sp cs R → cs.length = ps.length)
    (body : ∀ (cdv : Value) (A : Around) (outer : List Env) (s : Shared) (H : Hp) (E : XK), RoomG k (A.deeper (envOfC qual (defScope st) s.heap.objs.size f cdv)) → JSsM (cxOf CX0 P w K mg base N qual (defScope st) f cdv A outer s H E).nox i (defBody st) wb)
    (rd : ∀ cs R, sp cs R → wb (endsM i cs R) (start0 N.length cs)) : FnG P w K mg base CX0 (k + 1) f fd ps (liftM K sp) := by
  obtain ⟨oc, od, kV, doc, pm, an, cdv, ct, osl, rfl, lk, hcd⟩ := F.ex
  refine fnG_of lk hcd S (fun vs H Q E ⟨B, G, cs, R, rel, hs, _⟩ => by rw [← dl cs R hs, ← rel.len, List.length_map]) fun A outer s H vs Q E hr ⟨B, G, cs, R, rel, hs, kk⟩ => ?_
  refine ⟨_, (body cdv A outer s H E hr).nox, B, G, _, endsM i cs R, rel_start rel, rd cs R hs, ?_, fun _ _ h => h, fun _ h => h, fun _ h => h⟩
  rintro σ' H' G' δ' ⟨io, hi, a, xs, hδ, r⟩ sG rel'
  obtain ⟨o, hσ, ok⟩ := rel'.at hδ
  have ok' : CellOk K G' H' (.ol a xs) o := ok
  obtain ⟨rfl, ws, ha, t⟩ := ok
  refine ⟨.ref a, hσ, ?_⟩
  have fr := rel'.fr i _ a hδ (by simp [Cell.fp])
  have rel2 := rel_end rel rel' sG io
  refine kk (.ref a) H' G' (.ol a xs) _ r sG (rel2.more (fun b m => ?_) fun j c b e m mb => ?_) (fun b m => ?_) ok'
  · have : b = a := by simpa [Cell.fp] using m
    rw [this]; exact fr.1
  · have : b = a := by simpa [Cell.fp] using mb
    subst this
    have hj := outC_take e
    obtain ⟨c0, e0, q⟩ := outC_at io e
    have hd : δ'[j]? = some c := by
      rcases q with ⟨h, rfl⟩ | ⟨a, xs, ys, rfl, rfl, ed⟩ | ⟨a, b, d, rfl, rfl, ed⟩ | ⟨a, xs, ys, rfl, rfl, ed⟩
      · rcases h with ⟨x, rfl⟩ | rfl | ⟨a, ns, rfl⟩ <;> cases m
      · exact ed
      · exact ed
      · exact ed
    have := rel'.ap j i c _ b hd hδ m (by simp [Cell.fp])
    omega
  · have : b = a := by simpa [Cell.fp] using m
    rw [this]; exact fr.2
end
/-! ### list(range(..)), one's own -/
def wLstRg1 (w : DE) : DL := fun δ R => w δ fun o δ1 => use o δ1 fun x => asI x (fun n => -1000000 ≤ n ∧ n ≤ 1000000 ∧ R (nums 0 n.toNat) δ1) .mk
def wLstRg2 (w u : DE) : DL := fun δ R => w δ fun o δ1 => u δ1 fun o2 δ2 => use o δ2 fun x => use o2 δ2 fun y => asI x (fun m => asI y (fun n => (-1000000 ≤ m ∧ m ≤ 1000000 ∧ -1000000 ≤ n ∧ n ≤ 1000000) ∧ R (nums m (n - m).toNat) δ2) .mk) .mk
omit [Tb] in
@[simp ↓] theorem wLstRg1_ap (w : DE) (δ : DS) (R : List PyData → DS → Prop) : wLstRg1 w δ R = (w δ fun o δ1 => use o δ1 fun x => asI x (fun n => -1000000 ≤ n ∧ n ≤ 1000000 ∧ R (nums 0 n.toNat) δ1) .mk) := rfl
omit [Tb] in
@[simp ↓] theorem wLstRg2_ap (w u : DE) (δ : DS) (R : List PyData → DS → Prop) : wLstRg2 w u δ R = (w δ fun o δ1 => u δ1 fun o2 δ2 => use o δ2 fun x => use o2 δ2 fun y => asI x (fun m => asI y (fun n => (-1000000 ≤ m ∧ m ≤ 1000000 ∧ -1000000 ≤ n ∧ n ≤ 1000000) ∧ R (nums m (n - m).toNat) δ2) .mk) .mk) := rfl
theorem asI_inv {x : PyData} {k : Int → Prop} {u : Stop k} (h : asI x k u) : ∃ n, x = .int n ∧ k n := by
  cases x <;> first | exact h.elim | exact ⟨_, rfl, h⟩
theorem dnl_nums {K : PySem.W.Frag} {G : Hp} (lo hi : Int) : DnL K G (rgV lo hi) (nums lo (hi - lo).toNat) := by
  have : ∀ l : List Nat, DnL K G (l.map fun i => V.int (lo + (i : Nat))) (l.map fun (i : Nat) => PyData.int (lo + (i : Int))) := by
    intro l
    induction l with
    | nil => exact .nil
    | cons a l ih => exact .cons (.int _) ih
  exact this _
section
variable {X : Cx} {pos : Pos}
theorem jl_listRg1 {a : Expr} {w : DE} {p p2 : Pos} {pos2 : Pos} (hc : X.calm = true) (hg : Gl X "list") (hm : X.mg "list" = none) (hg2 : Gl X "range") (hm2 : X.mg "range" = none) (ha : JE X a w) (na2 : starEach [a] X.env = (false, eval a X.env) :: starEach [] X.env := by rfl)
    (na : starEach [.Call (.Name "range" p2) [a] [] pos2] X.env = (false, eval (.Call (.Name "range" p2) [a] [] pos2) X.env) :: starEach [] X.env := by rfl) : JL X (.Call (.Name "list" p) [.Call (.Name "range" p2) [a] [] pos2] [] pos) (wLstRg1 w) :=
  pe_le (pe_listRg hc hg hm (prg_1 hg2 hm2 ha na2) na) fun pins s σ H Q I ⟨B, G, δ, R, rel, hw, k⟩ => ⟨B, G, δ, _, rel, hw, fun v H1 G1 o δ1 r1 s1 rel1 ok1 => by
    obtain ⟨x, q, b⟩ := use_ok rel1 ok1 r1
    obtain ⟨n, rfl, h0, h1, q⟩ := asI_inv q
    refine ⟨n, bor_int b, ⟨by omega, by omega, by omega, by omega, by omega⟩, fun p np => ?_⟩
    have := dnl_nums (K := X.K) (G := G1) 0 n
    rw [Int.sub_zero] at this
    exact k p _ _ _ _ _ q s1 (rel1.growB np) (rel1.freeB np) this⟩
theorem jl_listRg2 {a b : Expr} {w u : DE} {p p2 : Pos} {pos2 : Pos} (hc : X.calm = true) (hg : Gl X "list") (hm : X.mg "list" = none) (hg2 : Gl X "range") (hm2 : X.mg "range" = none) (ha : JE X a w) (hb : JE X b u) (na2 : starEach [a, b] X.env = (false, eval a X.env) :: starEach [b] X.env := by rfl) (na3 : starEach [b] X.env = (false, eval b X.env) :: starEach [] X.env := by rfl) (hp2 : (backTo pos2 (starEach [b] X.env)).any (·.1) = false := by rfl)
    (na : starEach [.Call (.Name "range" p2) [a, b] [] pos2] X.env = (false, eval (.Call (.Name "range" p2) [a, b] [] pos2) X.env) :: starEach [] X.env := by rfl) : JL X (.Call (.Name "list" p) [.Call (.Name "range" p2) [a, b] [] pos2] [] pos) (wLstRg2 w u) :=
  pe_le (pe_listRg hc hg hm (prg_2 hg2 hm2 ha hb na2 na3 hp2) na) fun pins s σ H Q I ⟨B, G, δ, R, rel, hw, k⟩ => ⟨B, G, δ, _, rel, hw, fun v H1 G1 o δ1 r1 s1 rel1 ok1 => ⟨B, G1, δ1, _, rel1, r1, fun v2 H2 G2 o2 δ2 r2 s2 rel2 ok2 => by
    obtain ⟨x, q, b⟩ := use_ok rel2 (ok1.mono s2) r2
    obtain ⟨y, q, b'⟩ := use_ok rel2 ok2 q
    obtain ⟨m, rfl, q'⟩ := asI_inv q
    obtain ⟨n, rfl, ⟨h0, h1, h2, h3⟩, q2⟩ := asI_inv q'
    refine ⟨m, n, bor_int b, bor_int b', ⟨by omega, by omega, by omega, by omega, by omega⟩, fun p np => ?_⟩
    exact k p _ _ _ _ _ q2 (s1.trans s2) (rel2.growB np) (rel2.freeB np) (dnl_nums _ _)⟩⟩
/-! ### x.pop(e), x.pop() of a list of one's own -/
def wPopA (i : Nat) (w : DE) : DE := fun δ R => isOl δ i ∧ w δ fun o δ1 => use o δ1 fun z => asI z (fun j => olC δ1[i]? (fun a xs => 0 ≤ j ∧ j < xs.length ∧ xs.length ≤ 1000000 ∧ onS xs[j.toNat]? (fun y => R (.d y) (δ1.set i (.ol a (xs.eraseIdx j.toNat)))) .mk) .mk) .mk
omit [Tb] in
@[simp ↓] theorem wPopA_ap (i : Nat) (w : DE) (δ : DS) (R : Opd → DS → Prop) : wPopA i w δ R = (isOl δ i ∧ w δ fun o δ1 => use o δ1 fun z => asI z (fun j => olC δ1[i]? (fun a xs => 0 ≤ j ∧ j < xs.length ∧ xs.length ≤ 1000000 ∧ onS xs[j.toNat]? (fun y => R (.d y) (δ1.set i (.ol a (xs.eraseIdx j.toNat)))) .mk) .mk) .mk) := rfl
theorem olC_inv {o : Option Cell} {k : Addr → List PyData → Prop} {u : Stop k} (h : olC o k u) : ∃ a xs, o = some (.ol a xs) ∧ k a xs := by
  cases o with
  | none => exact h.elim
  | some c => cases c <;> first | exact h.elim | exact ⟨_, _, rfl, h⟩
theorem onS_inv {α : Type} {o : Option α} {k : α → Prop} {u : Stop k} (h : onS o k u) : ∃ z, o = some z ∧ k z := by
  cases o with
  | none => exact h.elim
  | some z => exact ⟨z, rfl, h⟩
theorem je_popA {i : Nat} {e : Expr} {x : Str} {w : DE} {px apos cpos : Pos}
    (hb : PE X (.Call (.Attribute (.Name x px) "pop" apos) [e] [] cpos) (tBM X.K "list" rPopAt (tVar i) (tCons (up X.K w) tNil))) : JE X (.Call (.Attribute (.Name x px) "pop" apos) [e] [] cpos) (wPopA i w) :=
  pe_le hb fun pins s σ H Q I ⟨B, G, δ, R, rel, ⟨⟨a, xs, hδ⟩, hw⟩, k⟩ => by
    obtain ⟨o, hσ, rfl, vs, ha, t⟩ := rel.at hδ
    refine ⟨.ref a, hσ, .inl ⟨rfl, _, SqL.of ha⟩, B, G, δ, _, rel, hw, fun v H1 G1 o δ1 r1 s1 rel1 ok1 => ?_⟩
    obtain ⟨y, q, by'⟩ := use_ok rel1 ok1 r1
    obtain ⟨j, rfl, q1⟩ := asI_inv q
    obtain ⟨a', ws, e2, h0, h1, h2, q2⟩ := olC_inv q1
    obtain ⟨z, e3, q3⟩ := onS_inv q2
    obtain ⟨o2, hσ2, e4, us, hu, t2⟩ := rel1.at e2
    rw [hσ] at hσ2
    cases hσ2
    cases e4
    obtain ⟨u, hv, dz⟩ := t2.get e3
    have hln := t2.len
    refine ⟨a, us, j, j.toNat, u, rfl, by rw [bor_int by'], hu, by omega, by omega, ?_, hv, ?_⟩
    · have c1 : ¬ j < 0 := by omega
      have c2 : j < (us.length : Nat) := by omega
      simp [seqIndex?, c1, h0, c2]
    · exact k _ _ G1 _ _ q3 s1 (rel1.write e2 (t2.erase j.toNat)) (dz.mono (Same.refl _))
end
/-! ### xs.index(e) -/
def lsC (x : PyData) (k : List PyData → Prop) (_u : Stop k) : Prop := match x with
  | .list xs => k xs
  | _ => False
omit [Tb] in
@[simp ↓] theorem lsC_l (xs : List PyData) (k : List PyData → Prop) (u : Stop k) : lsC (.list xs) k u = k xs := rfl
theorem lsC_inv {x : PyData} {k : List PyData → Prop} {u : Stop k} (h : lsC x k u) : ∃ xs, x = .list xs ∧ k xs := by
  cases x <;> first | exact h.elim | exact ⟨_, rfl, h⟩
def ixOf (ds : List PyData) (y : PyData) : Option Nat := ds.findIdx? fun z => PyData.eqv z y
theorem ixOf_some {ds : List PyData} {y : PyData} {j : Nat} (h : ixOf ds y = some j) : ∃ z, ds[j]? = some z ∧ PyData.eqv z y = true ∧ ∀ m z', m < j → ds[m]? = some z' → PyData.eqv z' y = false := by
  unfold ixOf at h
  rw [List.findIdx?_eq_some_iff_getElem] at h
  obtain ⟨hj, h1, h2⟩ := h
  refine ⟨ds[j], List.getElem?_eq_getElem hj, h1, fun m z' hm hz => ?_⟩
  have := h2 m hm
  rw [List.getElem?_eq_getElem (by omega)] at hz
  cases hz
  simpa using this
def wIndex (w u : DE) : DE := fun δ R => w δ fun o δ1 => use o δ1 fun x => lsC x (fun _ => u δ1 fun o2 δ2 => use o δ2 fun x2 => use o2 δ2 fun y => lsC x2 (fun ds => SeqAt.shaped (.list ds) = true ∧ SeqAt.shaped y = true ∧ onS (ixOf ds y) (fun j => R (.d (.int (j : Nat))) δ2) .mk) .mk) .mk
omit [Tb] in
@[simp ↓] theorem wIndex_ap (w u : DE) (δ : DS) (R : Opd → DS → Prop) : wIndex w u δ R = (w δ fun o δ1 => use o δ1 fun x => lsC x (fun _ => u δ1 fun o2 δ2 => use o δ2 fun x2 => use o2 δ2 fun y => lsC x2 (fun ds => SeqAt.shaped (.list ds) = true ∧ SeqAt.shaped y = true ∧ onS (ixOf ds y) (fun j => R (.d (.int (j : Nat))) δ2) .mk) .mk) .mk) := rfl
section
variable {X : Cx} {pos : Pos}
theorem je_index {o e : Expr} {w u : DE} {apos cpos : Pos}
    (hb : PE X (.Call (.Attribute o "index" apos) [e] [] cpos) (tBM X.K "list" (rIndexD X.K) (up X.K w) (tCons (up X.K u) tNil))) : JE X (.Call (.Attribute o "index" apos) [e] [] cpos) (wIndex w u) :=
  pe_le hb fun pins s σ H Q I ⟨B, G, δ, R, rel, hw, k⟩ => ⟨B, G, δ, _, rel, hw, fun v H1 G1 o1 δ1 r1 s1 rel1 ok1 => by
    obtain ⟨x, q, b⟩ := use_ok rel1 ok1 r1
    obtain ⟨ds0, rfl, q1⟩ := lsC_inv q
    obtain ⟨a, vs, rfl, ha, ta⟩ := bor_lst rel1 b
    refine ⟨.inl ⟨rfl, _, SqL.of ha⟩, B, G1, δ1, _, rel1, q1, fun v2 H2 G2 o2 δ2 r2 s2 rel2 ok2 => ?_⟩
    obtain ⟨x2, q2, b2⟩ := use_ok rel2 (ok1.mono s2) r2
    obtain ⟨y, q3, b3⟩ := use_ok rel2 ok2 q2
    obtain ⟨ds, rfl, h1, h2, q4⟩ := lsC_inv q3
    obtain ⟨j, hj, q5⟩ := onS_inv q4
    obtain ⟨z, hz, he, hn⟩ := ixOf_some hj
    exact ⟨a, v2, y, ds, j, z, rfl, rfl, Dn.dp _ (noDict_of_shaped h1) (b2.dn rel2), Dn.dp _ (noDict_of_shaped h2) (b3.dn rel2), h1, h2, hz, he, hn, k _ H2 G2 _ _ q5 (s1.trans s2) rel2 (Dn.int _)⟩⟩
end
end DL
set_option Elab.async false
set_option linter.all false
set_option maxRecDepth 100000
set_option maxHeartbeats 4000000
namespace DL
open PySem PySem.Spec PyProof.Rows L2
variable [Tb]
/-! ### readings of comprehensions where the slots change -/
variable {g : DTG} {t : DT} {e : DE} {vs : List Nat} {xs : List PyData} {δ : DS}
theorem com_ofP {α : Type} {R : List PyData → DS → Prop} {u : Stop R} (d : α → PyData) (A : α → Prop) (P : DS → Prop) (h : P δ)
    (hs : ∀ x ∈ xs, ∀ (acc : List PyData) (δ : DS) (K : List PyData → DS → Prop), P δ → (∀ a δ', A a → P δ' → K (acc ++ [d a]) δ') → g x δ fun δ1 => t δ1 fun b δ2 => if b = true then e δ2 fun o δ3 => lk o δ3 fun y δ4 => K (acc ++ [y]) (wipeD δ4 vs) else K acc (wipeD δ2 vs))
    (k : ∀ (as : List α) δ', as.length = xs.length → (∀ a ∈ as, A a) → P δ' → R (as.map d) δ') : comC g t e vs xs [] δ R u := by
  refine com_inv (fun ys acc δ' => P δ' ∧ (∀ y ∈ ys, y ∈ xs) ∧ ∃ bs : List α, acc = bs.map d ∧ (∀ a ∈ bs, A a) ∧ bs.length + ys.length = xs.length) ⟨h, fun _ h => h, [], rfl, by simp, by simp⟩ ?_ ?_
  · rintro acc δ' ⟨hp, _, bs, rfl, ha, hl⟩
    exact k bs δ' (by simpa using hl) ha hp
  · rintro x ys acc δ' ⟨hp, hm, bs, rfl, ha, hl⟩ K hK
    refine hs x (hm x (List.mem_cons_self ..)) _ δ' K hp fun a δ2 qa qp => ?_
    have := hK (bs.map d ++ [d a]) δ2 ⟨qp, fun y hy => hm y (List.mem_cons_of_mem _ hy), bs ++ [a], by simp, fun b hb => ?_, by simp at hl ⊢; omega⟩
    · exact this
    · rcases List.mem_append.mp hb with q | q
      · exact ha b q
      · rw [List.mem_singleton.mp q]; exact qa
end DL
set_option Elab.async false
set_option linter.all false
set_option maxRecDepth 100000
set_option maxHeartbeats 4000000
namespace DL
open PySem PySem.Spec PyProof.Rows L2
variable [Tb]
/-! ### sorted data: one list for all arrangements -/
mutual
theorem eq_of_eqv : ∀ (x y : PyData), W.alike x y = true → PyData.eqv x y = true → x = y
  | .none, y, h, e => by cases y <;> simp [W.alike] at h ⊢
  | .bool a, y, h, e => by cases y <;> simp [W.alike, PyData.eqv] at h e ⊢; exact e
  | .int a, y, h, e => by cases y <;> simp [W.alike, PyData.eqv] at h e ⊢; exact e
  | .str a, y, h, e => by cases y <;> simp [W.alike, PyData.eqv] at h e ⊢; exact e
  | .list xs, y, h, e => by
    cases y with
    | list ys => rw [eq_of_eqvAll xs ys (by simpa [W.alike] using h) (by simpa [PyData.eqv] using e)]
    | _ => simp [W.alike] at h
  | .tuple xs, y, h, e => by
    cases y with
    | tuple ys => rw [eq_of_eqvAll xs ys (by simpa [W.alike] using h) (by simpa [PyData.eqv] using e)]
    | _ => simp [W.alike] at h
  | .dict xs, y, h, e => by cases y <;> simp [W.alike] at h
theorem eq_of_eqvAll : ∀ (xs ys : List PyData), W.alikeAll xs ys = true → PyData.eqvAll xs ys = true → xs = ys
  | [], ys, h, e => by cases ys <;> simp [PyData.eqvAll] at e ⊢
  | x :: xs, ys, h, e => by
    cases ys with
    | nil => simp [PyData.eqvAll] at e
    | cons y ys =>
      rw [W.alikeAll, Bool.and_eq_true] at h
      rw [PyData.eqvAll, Bool.and_eq_true] at e
      rw [eq_of_eqv x y h.1 e.1, eq_of_eqvAll xs ys h.2 e.2]
end
theorem leD_eq (x y : PyData) : leD x y = !W.dataLt y x := rfl
theorem leD_trans (a b c : PyData) (h1 : leD a b = true) (h2 : leD b c = true) : leD a c = true := by
  rw [leD_eq] at *
  simp only [Bool.not_eq_true'] at *
  cases h : W.dataLt c a with
  | false => rfl
  | true =>
    rcases lex_negTrans (O := itemOrd) (W.keyToks c) (W.keyToks b) (W.keyToks a) h with q | q
    · have : W.dataLt c b = true := q
      rw [h2] at this; cases this
    · have : W.dataLt b a = true := q
      rw [h1] at this; cases this
theorem leD_total (a b : PyData) : (leD a b || leD b a) = true := by
  rw [leD_eq, leD_eq]
  cases h1 : W.dataLt b a <;> cases h2 : W.dataLt a b <;> try rfl
  have := lex_trans (O := itemOrd) _ _ _ h1 h2
  rw [lex_irrefl] at this; cases this
theorem leD_anti {a b : PyData} (h : W.alike a b = true) (h1 : leD a b = true) (h2 : leD b a = true) : a = b := by
  rw [leD_eq] at h1 h2
  simp only [Bool.not_eq_true'] at h1 h2
  have e := lex_total (O := itemOrd) _ _ h1 h2
  refine eq_of_eqv a b h ?_
  cases q : PyData.eqv a b with
  | true => rfl
  | false =>
    have := (W.toks_eqv a b h).2 q [] [.inl 5]
    rw [List.append_nil, e] at this
    have p := W.lex_pre (W.keyToks a) [] [.inl 5]
    rw [List.append_nil] at p
    rw [p, lex_irrefl] at this
    cases this
theorem sort_pw (ds : List PyData) : (sortD ds).Pairwise fun a b => leD a b = true := List.pairwise_mergeSort leD_trans leD_total ds
theorem sort_perm {xs ys : List PyData} (ha : W.AllAlike xs) (h : xs.Perm ys) : sortD xs = sortD ys := by
  have p1 : (sortD xs).Perm xs := List.mergeSort_perm _ _
  have p2 : (sortD ys).Perm ys := List.mergeSort_perm _ _
  refine List.Perm.eq_of_pairwise (le := fun a b => leD a b = true) (fun a b ma mb l1 l2 => ?_) (sort_pw xs) (sort_pw ys) (p1.trans (h.trans p2.symm))
  exact leD_anti (ha _ (p1.mem_iff.mp ma) _ (h.mem_iff.mpr (p2.mem_iff.mp mb))) l1 l2
theorem perm_flatMap {α β : Type} (f g : α → List β) : ∀ l : List α, (l.flatMap fun a => f a ++ g a).Perm (l.flatMap f ++ l.flatMap g)
  | [] => .refl _
  | a :: l => by
    simp only [List.flatMap_cons, List.append_assoc]
    refine (List.Perm.append_left _ ?_)
    refine (List.Perm.append_left _ (perm_flatMap f g l)).trans ?_
    rw [← List.append_assoc, ← List.append_assoc]
    exact List.Perm.append_right _ List.perm_append_comm
end DL
set_option Elab.async false
set_option linter.all false
set_option maxRecDepth 100000
set_option maxHeartbeats 4000000
namespace DL
open PySem PySem.Spec PyProof.Rows L2
variable [Tb]
/-! ### match of a tuple: patterns of constants and names in a row, and the wildcard -/
inductive Pt
  | val (d : PyData)
  | cap (i : Nat)
def eachM : List Pt → List PyData → (Option (List (Nat × PyData)) → Prop) → Prop
  | [], [], k => k (some [])
  | .val d :: ps, x :: xs, k => pEq x d fun z => ∃ b, z = .bool b ∧ if b = true then eachM ps xs k else k none
  | .cap i :: ps, x :: xs, k => eachM ps xs fun o => match o with
    | none => k none
    | some bs => k (some ((i, x) :: bs))
  | _, _, _ => False
def setsD (δ : DS) : List (Nat × PyData) → DS
  | [] => δ
  | (i, x) :: r => setsD (δ.set i (.d x)) r
inductive Ct
  | seq (ps : List Pt) (b : DTS)
  | wild (b : DTS)
def caseM : List Ct → List PyData → DTS
  | [], _, E, δ => E.nx δ
  | .wild b :: _, _, E, δ => b E δ
  | .seq ps b :: cs, xs, E, δ => if xs.length = ps.length then eachM ps xs fun o => match o with
      | none => caseM cs xs E δ
      | some bs => b E (setsD δ bs)
    else caseM cs xs E δ
def tpC (x : PyData) (k : List PyData → Prop) (_u : Stop k) : Prop := match x with
  | .tuple xs => k xs
  | _ => False
omit [Tb] in
@[simp ↓] theorem tpC_t (xs : List PyData) (k : List PyData → Prop) (u : Stop k) : tpC (.tuple xs) k u = k xs := rfl
theorem tpC_inv {x : PyData} {k : List PyData → Prop} {u : Stop k} (h : tpC x k u) : ∃ xs, x = .tuple xs ∧ k xs := by
  cases x <;> first | exact h.elim | exact ⟨_, rfl, h⟩
def wMatch (w : DE) (cs : List Ct) : DTS := fun E δ => w δ fun o δ1 => lk o δ1 fun x δ2 => tpC x (fun xs => xs.length ≤ 1000000 ∧ caseM cs xs E δ2) .mk
omit [Tb] in
@[simp ↓] theorem wMatch_ap (w : DE) (cs : List Ct) (E : DEnds) (δ : DS) : wMatch w cs E δ = (w δ fun o δ1 => lk o δ1 fun x δ2 => tpC x (fun xs => xs.length ≤ 1000000 ∧ caseM cs xs E δ2) .mk) := rfl
omit [Tb] in
@[simp ↓] theorem eachM_nil (k : Option (List (Nat × PyData)) → Prop) : eachM [] [] k = k (some []) := rfl
omit [Tb] in
@[simp ↓] theorem eachM_val (d x : PyData) (ps : List Pt) (xs : List PyData) (k : Option (List (Nat × PyData)) → Prop) : eachM (.val d :: ps) (x :: xs) k = (pEq x d fun z => ∃ b, z = .bool b ∧ if b = true then eachM ps xs k else k none) := rfl
omit [Tb] in
@[simp ↓] theorem eachM_cap (i : Nat) (x : PyData) (ps : List Pt) (xs : List PyData) (k : Option (List (Nat × PyData)) → Prop) : eachM (.cap i :: ps) (x :: xs) k = (eachM ps xs fun o => match o with
    | none => k none
    | some bs => k (some ((i, x) :: bs))) := rfl
omit [Tb] in
@[simp ↓] theorem caseM_nil (xs : List PyData) (E : DEnds) (δ : DS) : caseM [] xs E δ = E.nx δ := rfl
omit [Tb] in
@[simp ↓] theorem caseM_wild (b : DTS) (cs : List Ct) (xs : List PyData) (E : DEnds) (δ : DS) : caseM (.wild b :: cs) xs E δ = b E δ := rfl
omit [Tb] in
@[simp ↓] theorem caseM_seq (ps : List Pt) (b : DTS) (cs : List Ct) (xs : List PyData) (E : DEnds) (δ : DS) : caseM (.seq ps b :: cs) xs E δ = (if xs.length = ps.length then eachM ps xs fun o => match o with
      | none => caseM cs xs E δ
      | some bs => b E (setsD δ bs)
    else caseM cs xs E δ) := rfl
omit [Tb] in
@[simp ↓] theorem setsD_nil (δ : DS) : setsD δ [] = δ := rfl
omit [Tb] in
@[simp ↓] theorem setsD_cons (δ : DS) (i : Nat) (x : PyData) (r : List (Nat × PyData)) : setsD δ ((i, x) :: r) = setsD (δ.set i (.d x)) r := rfl
inductive PtOk (X : Cx) : List Pattern → List Pt → Prop
  | nil : PtOk X [] []
  | val {e : Expr} {v : V} {d : PyData} {pos : Pos} {ps : List Pattern} {qs : List Pt} (h : PE X e (tC v)) (hv : ∀ K G, Dn K G v d) (t : PtOk X ps qs) : PtOk X (.MatchValue e pos :: ps) (.val d :: qs)
  | cap {x : Str} {i : Nat} {pos : Pos} {ps : List Pattern} {qs : List Pt} (hi : X.N[i]? = some x) (hx : Loc X.env.scope x) (hf : X.fn x = true ∨ X.env.scope.names.lookup x = some .local) (t : PtOk X ps qs) : PtOk X (.MatchAs none (some x) pos :: ps) (.cap i :: qs)
theorem PtOk.len {X : Cx} {ps : List Pattern} {qs : List Pt} (h : PtOk X ps qs) : ps.length = qs.length := by
  induction h with
  | nil => rfl
  | val _ _ _ ih => simp [ih]
  | cap _ _ _ _ ih => simp [ih]
inductive BsOk (X : Cx) (G : Hp) : List (Str × Value) → List (Nat × PyData) → Prop
  | nil : BsOk X G [] []
  | cons {x : Str} {u : Value} {v : V} {i : Nat} {d : PyData} {bs : List (Str × Value)} {os : List (Nat × PyData)} (hi : X.N[i]? = some x) (hx : Loc X.env.scope x) (hf : X.fn x = true ∨ X.env.scope.names.lookup x = some .local) (r : RelV v u) (h : Dn X.K G v d) (t : BsOk X G bs os) : BsOk X G ((x, u) :: bs) ((i, d) :: os)
inductive RoOk (X : Cx) (G : Hp) : Option (List (Str × Value)) → Option (List (Nat × PyData)) → Prop
  | none : RoOk X G none none
  | some {bs : List (Str × Value)} {os : List (Nat × PyData)} (h : BsOk X G bs os) : RoOk X G (some bs) (some os)
section
variable {X : Cx}
theorem each_ok (hu : X.A.units + 64 < cLine) {δ : DS} {σ : L2.St} {B : Hp} {pins : List (Addr × Obj)} : ∀ {ps : List Pattern} {qs : List Pt} (h : PtOk X ps qs) {vs : List V} {us : List Value} {xs : List PyData} {H G : Hp} {s : Shared} {k : Option (List (Nat × PyData)) → Prop} {Q : Option (List (Str × Value)) → Shared → Prop}
    (rv : Vals vs us) (dn : DnL X.K G vs xs) (I : Inv X pins σ H s) (rel : Rel X.K B G δ σ H) (hk : eachM qs xs k)
    (hQ : ∀ r o s' H' G', Inv X pins σ H' s' → Same G G' → Rel X.K B G' δ σ H' → RoOk X G' r o → k o → Q r s'), wpAny (model X.prog X.w) X.A (matchEach ps X.env us) Q X.xe s := by
  intro ps qs h
  induction h with
  | nil =>
    intro vs us xs H G s k Q rv dn I rel hk hQ
    cases xs with
    | nil => exact wpAny_matchEach_nil (hQ _ _ _ _ _ I (Same.refl _) rel (.some .nil) hk)
    | cons x xs => exact hk.elim
  | @val e v d pos ps qs he hv t ih =>
    intro vs us xs H G s k Q rv dn I rel hk hQ
    cases xs with
    | nil => exact hk.elim
    | cons x xs =>
      cases dn with
      | cons d1 d2 =>
        cases rv with
        | cons r1 r2 =>
          refine wpAny_matchEach_cons (wpAny_matchPattern_Value ?_)
          refine thn (he.run pins s σ H (fun v' H' => v' = v ∧ H' = H) I ⟨rfl, rfl⟩) fun u s1 ⟨v', H1, I1, ru, e1, e2⟩ => ?_
          subst e1 e2
          refine thn (d_eq hu pins s1 σ H1 _ _ _ _ (fun z H' => ∃ G' dz, Same G G' ∧ Rel X.K B G' δ σ H' ∧ Dn X.K G' z dz ∧ ∃ b, dz = .bool b ∧ if b = true then eachM qs xs k else k none) I1 r1 ru ⟨B, G, δ, σ, x, d, _, rel, .inl d1, .inl (hv _ _), hk, fun z H' G' dz q s2 rel2 dn2 => ⟨G', dz, s2, rel2, dn2, q⟩⟩) fun c s2 ⟨z, H2, I2, rz, G2, dz, sg, rel2, dnz, b, e, q⟩ => ?_
          subst e
          obtain rfl := dn_bool dnz
          have rc : c = .bool b := rz
          subst rc
          refine wpAny_truthy_bool ?_
          cases b with
          | true =>
            simp only [if_true] at q ⊢
            refine ih r2 (d2.mono sg) I2 rel2 q fun r o s' H' G' I' sg' rel' ro kk => ?_
            cases ro with
            | none => exact hQ _ _ _ _ _ I' (sg.trans sg') rel' .none kk
            | some hb => exact hQ _ _ _ _ _ I' (sg.trans sg') rel' (.some (by simpa using hb)) kk
          | false =>
            simp only [Bool.false_eq_true, if_false] at q ⊢
            exact hQ _ _ _ _ _ I2 sg rel2 .none q
  | @cap x i pos ps qs hi hx hf t ih =>
    intro vs us xs H G s k Q rv dn I rel hk hQ
    cases xs with
    | nil => exact hk.elim
    | cons d xs =>
      cases dn with
      | cons d1 d2 =>
        cases rv with
        | cons r1 r2 =>
          refine wpAny_matchEach_cons (wpAny_matchPattern_Capture ?_)
          refine ih r2 d2 I rel hk fun r o s' H' G' I' sg' rel' ro kk => ?_
          cases ro with
          | none => exact hQ _ _ _ _ _ I' sg' rel' .none kk
          | some hb => exact hQ _ _ _ _ _ I' sg' rel' (.some (.cons hi hx hf r1 (d1.mono sg') hb)) kk
theorem binds_ok (hN : X.N.Nodup) {B : Hp} {pins : List (Addr × Obj)} {G H : Hp} : ∀ {bs : List (Str × Value)} {os : List (Nat × PyData)} (h : BsOk X G bs os) {σ : L2.St} {δ : DS} {s : Shared} {Q : Unit → Shared → Prop} (I : Inv X pins σ H s) (rel : Rel X.K B G δ σ H)
    (hQ : ∀ s' σ', Inv X pins σ' H s' → Rel X.K B G (setsD δ os) σ' H → Q () s'), wpAny (model X.prog X.w) X.A (assignInOrder (bs.map fun (n, _) => bindName X.env n) (bs.map (·.2))) Q X.xe s := by
  intro bs os h
  induction h with
  | nil => intro σ δ s Q I rel hQ; exact wpAny_assignInOrder_none (hQ _ _ I rel)
  | cons hi hx hf r d t ih =>
    intro σ δ s Q I rel hQ
    exact wpAny_assignInOrder_more (wpAny_bindName (store_ok I hN hi hx r (fun s1 I1 => ih I1 (rel.setD d) hQ) hf))
inductive CsOk (X : Cx) : List MatchCase → List Ct → Prop
  | nil : CsOk X [] []
  | wild {body : List Stmt} {b : DTS} {pos : Pos} {rest : List MatchCase} {ws : List Ct} (hb : JSs X body b) : CsOk X (⟨.MatchAs none none pos, none, body⟩ :: rest) (.wild b :: ws)
  | seq {ps : List Pattern} {qs : List Pt} {pos : Pos} {body : List Stmt} {b : DTS} {rest : List MatchCase} {ws : List Ct} (h : PtOk X ps qs) (hstar : ps.findIdx? (·.isStar) = none) (hwild : (ps.all fun p => p.isWildcard || (p.isStar && p.names.isEmpty)) = false) (hb : JSs X body b) (t : CsOk X rest ws) : CsOk X (⟨.MatchSequence ps pos, none, body⟩ :: rest) (.seq qs b :: ws)
theorem CsOk.seq' {ps : List Pattern} {qs : List Pt} {pos : Pos} {body : List Stmt} {b : DTS} {rest : List MatchCase} {ws : List Ct} (h : PtOk X ps qs) (hb : JSs X body b) (t : CsOk X rest ws) (hstar : ps.findIdx? (·.isStar) = none := by rfl) (hwild : (ps.all fun p => p.isWildcard || (p.isStar && p.names.isEmpty)) = false := by rfl) : CsOk X (⟨.MatchSequence ps pos, none, body⟩ :: rest) (.seq qs b :: ws) := .seq h hstar hwild hb t
theorem PtOk.cap' {x : Str} {i : Nat} {pos : Pos} {ps : List Pattern} {qs : List Pt} (hi : X.N[i]? = some x) (hx : Loc X.env.scope x) (t : PtOk X ps qs) (hf : X.fn x = true ∨ X.env.scope.names.lookup x = some .local := by first | exact .inl rfl | exact .inr rfl | assumption) : PtOk X (.MatchAs none (some x) pos :: ps) (.cap i :: qs) := .cap hi hx hf t
theorem PtOk.str {x : Str} {j : Nat} {p pos : Pos} {ps : List Pattern} {qs : List Pt} (t : PtOk X ps qs) : PtOk X (.MatchValue (.Constant (.str x) j p) pos :: ps) (.val (.str x) :: qs) := .val pe_str (fun _ _ => .str x) t
theorem PtOk.int {x : Int} {j : Nat} {p pos : Pos} {ps : List Pattern} {qs : List Pt} (t : PtOk X ps qs) : PtOk X (.MatchValue (.Constant (.int x) j p) pos :: ps) (.val (.int x) :: qs) := .val pe_int (fun _ _ => .int x) t
theorem cases_ok (hc : X.calm = true) (hu : X.A.units + 64 < cLine) (hN : X.N.Nodup) {B : Hp} {δ : DS} {σ : L2.St} {pins : List (Addr × Obj)} {E : DEnds} {D : Ends} {v : V} {u : Value} {xs : List PyData} (hz : xs.length ≤ 1000000) (r : RelV v u) :
    ∀ {cs : List MatchCase} {ws : List Ct} (h : CsOk X cs ws) {first : Bool} {s : Shared} {H G : Hp} (I : Inv X pins σ H s) (rel : Rel X.K B G δ σ H) (dn : Dn X.K G v (.tuple xs)) (hw : caseM ws xs E δ) (k : EndsOk X.K B G E D),
      wpAny (model X.prog X.w) X.A (matchCases cs X.env u first) (SP X pins D) X.xe s := by
  intro cs ws h
  induction h with
  | nil =>
    intro first s H G I rel dn hw k
    exact wpAny_matchCases_nil ⟨σ, H, I, k.nx σ H G δ hw (Same.refl _) rel⟩
  | wild hb =>
    intro first s H G I rel dn hw k
    refine wpAny_matchCases_cons (wpAny_matchPattern_Capture ?_)
    exact wpAny_assignInOrder_none (hb.run pins s σ H D I ⟨B, G, δ, E, rel, hw, k⟩)
  | @seq ps qs pos body b rest ws hp hstar hwild hb t ih =>
    intro first s H G I rel dn hw k
    cases dn with
    | @tup a vs _ hsq tl =>
      have ru : u = .ref a := r
      subst ru
      obtain ⟨its, rv, p, hz2⟩ := I.tuple (sqT_mono rel.sg (SqT.of hsq))
      have hl1 : its.length = vs.length := (rv.length).symm
      have hl2 := tl.len
      have hl3 := hp.len
      have hfit : (its.toArray.size : Int) < 2 ^ 63 := by simp only [List.size_toArray]; omega
      rw [caseM_seq] at hw
      by_cases hn : xs.length = qs.length
      · rw [if_pos hn] at hw
        refine wpAny_matchCases_cons (matchSeq_tuple_hit p hfit (by simp only [List.size_toArray]; omega) ?_ hstar hwild)
        have e : ps.length = its.toArray.size := by simp only [List.size_toArray]; omega
        rw [e]
        refine unpackItems_tuple (I.ok.hd hc) p fun h' hx' => ?_
        have I2 := I.kept (h' := h') (t' := s.toks + 1 + 1) fun b o e => hx' b o (Nat.ne_of_lt (Heap.lt_size e)) e
        refine each_ok hu hp (us := its.toArray.toList) (by simpa using rv) tl I2 rel hw fun r' o s' H' G' I' sg' rel' ro kk => ?_
        cases ro with
        | none => exact ih I' rel' (.tup (sg' _ _ hsq) (tl.mono sg')) kk (k.mono sg')
        | some hbs => exact binds_ok hN hbs I' rel' fun s2 σ2 I3 rel3 => hb.run pins s2 σ2 H' D I3 ⟨B, G', _, E, rel3, kk, k.mono sg'⟩
      · rw [if_neg hn] at hw
        refine wpAny_matchCases_cons (matchSeq_tuple_miss p hfit (by simp only [List.size_toArray]; omega) ?_ hstar hwild)
        exact ih (I.tok _) rel (.tup hsq tl) hw k
theorem js_match {e : Expr} {w : DE} {cs : List MatchCase} {ws : List Ct} {pos : Pos} (hc : X.calm = true) (hu : X.A.units + 64 < cLine) (hN : X.N.Nodup) (he : JE X e w) (hcs : CsOk X cs ws) : JS X (.Match e cs pos) (wMatch w ws) :=
  ⟨fun pins s σ H D I ⟨B, G, δ, E, rel, hw, k⟩ => by
    refine wpAny_Match (thn (he.run pins s σ H (fun v H1 => ∃ G1 δ1 xs, xs.length ≤ 1000000 ∧ caseM ws xs E δ1 ∧ Same G G1 ∧ Rel X.K B G1 δ1 σ H1 ∧ Dn X.K G1 v (.tuple xs)) I ⟨B, G, δ, _, rel, hw, fun v H1 G1 o δ1 r1 s1 rel1 ok1 => ?_⟩) fun u s1 ⟨v, H1, I1, ru, G1, δ1, xs, hz, q, sg, rel1, dn⟩ => ?_)
    · obtain ⟨G2, δ2, x, q, s2, rel2, dn⟩ := lk_ok rel1 ok1 r1
      obtain ⟨xs, rfl, hz, q2⟩ := tpC_inv q
      exact ⟨G2, δ2, xs, hz, q2, s1.trans s2, rel2, dn⟩
    · exact cases_ok hc hu hN hz ru hcs I1 rel1 dn q (k.mono sg)⟩
end
end DL
namespace DL
open PySem PySem.Spec PyProof.Rows L2
variable [Tb]
theorem PtOk.cap2 {X : Cx} {x : Str} {i : Nat} {pos : Pos} {ps : List Pattern} {qs : List Pt} (t : PtOk X ps qs) (hi : X.N[i]? = some x := by rfl) (hx : Loc X.env.scope x := by first | exact .inl rfl | exact .inr rfl) (hf : X.fn x = true ∨ X.env.scope.names.lookup x = some .local := by first | exact .inl rfl | exact .inr rfl) : PtOk X (.MatchAs none (some x) pos :: ps) (.cap i :: qs) := .cap hi hx hf t
end DL
set_option Elab.async false
set_option linter.all false
set_option maxRecDepth 100000
set_option maxHeartbeats 4000000
namespace DL
open PySem PySem.Spec PyProof.Rows L2
variable [Tb]
/-! ### a, b, c, d = e1, e2, e3, e4 -/
def wPar4 (i j k l : Nat) (w : DMs) : DTS := fun E δ => w δ fun cs δ1 => ∃ c d e f, cs = [c, d, e, f] ∧ E.nx ((((δ1.set i c).set j d).set k e).set l f)
omit [Tb] in
@[simp ↓] theorem wPar4_ap (i j k l : Nat) (w : DMs) (E : DEnds) (δ : DS) : wPar4 i j k l w E δ = (w δ fun cs δ1 => match cs with
  | [c, d, e, f] => E.nx ((((δ1.set i c).set j d).set k e).set l f)
  | _ => False) := by
  unfold wPar4
  congr 1; funext cs δ1
  match cs with
  | [] => simp
  | [c] => simp
  | [c, d] => simp
  | [c, d, e] => simp
  | [c, d, e, f] => exact propext ⟨fun ⟨c', d', e', f', h0, h⟩ => by cases h0; exact h, fun h => ⟨c, d, e, f, rfl, h⟩⟩
  | c :: d :: e :: f :: g :: r => simp
section
variable {X : Cx} {pos : Pos}
theorem jpar4 {i j l m : Nat} {x y z u : Str} {a b c d : Expr} {w : DMs} {px py pz pu pt : Pos} {kt k2 pt2} (hc : X.calm = true) (hN : X.N.Nodup) (hi : X.N[i]? = some x) (hj : X.N[j]? = some y) (hk : X.N[l]? = some z) (hm : X.N[m]? = some u) (ha : JMs X [a, b, c, d] w) (hx : X.env.scope.names.lookup x = some .local := by rfl) (hy : X.env.scope.names.lookup y = some .local := by rfl) (hz : X.env.scope.names.lookup z = some .local := by rfl) (hu : X.env.scope.names.lookup u = some .local := by rfl)
    (hs : swapsWithSole [.Tuple [.Name x px, .Name y py, .Name z pz, .Name u pu] kt pt] (.Tuple [a, b, c, d] k2 pt2) pos.line X.env = pure false := by rfl) (hw : swappedStores [.Tuple [.Name x px, .Name y py, .Name z pz, .Name u pu] kt pt] (.Tuple [a, b, c, d] k2 pt2) X.env = pure none := by rfl) :
    JS X (.Assign [.Tuple [.Name x px, .Name y py, .Name z pz, .Name u pu] kt pt] (.Tuple [a, b, c, d] k2 pt2) pos) (wPar4 i j l m w) := ps_le (ps_asg (pe_tup ha) (pg_tup (n := 4) hc (pgs_cons (pg_name hN hi (.inl hx) (.inr hx)) (pgs_cons (pg_name hN hj (.inl hy) (.inr hy)) (pgs_cons (pg_name hN hk (.inl hz) (.inr hz)) (pgs_cons (pg_name hN hm (.inl hu) (.inr hu)) pgs_nil))))) hs hw) fun pins s σ H D I ⟨B, G, δ, E, rel, hw, k⟩ => ⟨B, G, δ, _, rel, hw, fun vs H1 G1 cs δ1 r1 s1 rel1 hB ok1 => by
  obtain ⟨c, d, f, g, rfl, q⟩ := r1
  cases ok1 with
  | cons h1 d1 t1 =>
    cases t1 with
    | cons h2 d2 t2 =>
      cases t2 with
      | cons h3 d3 t3 =>
        cases t3 with
        | cons h4 d4 t4 =>
          cases t4
          have e : fps [c, d, f, g] = c.fp ++ (d.fp ++ (f.fp ++ (g.fp ++ []))) := by simp [fps]
          rw [e] at rel1
          have R2 := Rel.store (i := i) rel1 (fun a m => hB a (by simp [fps, m])) (fun a m => by have := d1 a m; simpa [fps] using this) h1
          have R3 := Rel.store (i := j) R2 (fun a m => hB a (by simp [fps, m])) (fun a m => by have := d2 a m; simpa [fps] using this) h2
          have R4 := Rel.store (i := l) R3 (fun a m => hB a (by simp [fps, m])) (fun a m => by have := d3 a m; simpa [fps] using this) h3
          have R5 := Rel.store (i := m) R4 (fun a m => hB a (by simp [fps, m])) (fun a m z => nomatch z) h4
          rw [bov_nil] at R5
          exact ⟨show 4 ≤ sizeLine by decide, fun p np => ⟨p, _, rfl, SqT.of upd_same, rfl, _, _, rfl, _, _, rfl, _, _, rfl, _, _, rfl, rfl, k.nx _ _ G1 _ q s1 (R5.grow np)⟩⟩⟩
end
end DL
set_option Elab.async false
set_option linter.all false
set_option maxRecDepth 100000
set_option maxHeartbeats 4000000
namespace DL
open PySem PySem.Spec PyProof.Rows L2
variable [Tb]
/-! ### a, b = e1, e2 where a name is read by a comprehension -/
section
variable {X : Cx} {pos : Pos}
theorem jparC2 {i j : Nat} {x y : Str} {a b : Expr} {w : DMs} {px py pt : Pos} {kt k2 pt2} (hc : X.calm = true) (hN : X.N.Nodup) (hi : X.N[i]? = some x) (hj : X.N[j]? = some y) (ha : JMs X [a, b] w) (hx : Loc X.env.scope x := by first | exact .inl rfl | exact .inr rfl) (hy : Loc X.env.scope y := by first | exact .inl rfl | exact .inr rfl)
    (fx : X.fn x = true ∨ X.env.scope.names.lookup x = some .local := by first | exact .inl rfl | exact .inr rfl) (fy : X.fn y = true ∨ X.env.scope.names.lookup y = some .local := by first | exact .inl rfl | exact .inr rfl)
    (hs : swapsWithSole [.Tuple [.Name x px, .Name y py] kt pt] (.Tuple [a, b] k2 pt2) pos.line X.env = pure false := by rfl) (hw : swappedStores [.Tuple [.Name x px, .Name y py] kt pt] (.Tuple [a, b] k2 pt2) X.env = pure none := by rfl) :
    JS X (.Assign [.Tuple [.Name x px, .Name y py] kt pt] (.Tuple [a, b] k2 pt2) pos) (wPar2 i j w) := ps_le (ps_asg (pe_tup ha) (pg_tup (n := 2) hc (pgs_cons (pg_name hN hi hx fx) (pgs_cons (pg_name hN hj hy fy) pgs_nil))) hs hw) fun pins s σ H D I ⟨B, G, δ, E, rel, hw, k⟩ => ⟨B, G, δ, _, rel, hw, fun vs H1 G1 cs δ1 r1 s1 rel1 hB ok1 => by
  obtain ⟨c, d, rfl, q⟩ := r1
  cases ok1 with
  | cons h1 d1 t1 =>
    cases t1 with
    | cons h2 d2 t2 =>
      cases t2
      have e : fps [c, d] = c.fp ++ (d.fp ++ []) := by simp [fps]
      rw [e] at rel1
      have R2 := Rel.store (i := i) rel1 (fun a m => hB a (by simp [fps, m])) (fun a m => by have := d1 a m; simpa [fps] using this) h1
      have R3 := Rel.store (i := j) R2 (fun a m => hB a (by simp [fps, m])) (fun a m z => nomatch z) h2
      rw [bov_nil] at R3
      exact ⟨show 2 ≤ sizeLine by decide, fun p np => ⟨p, _, rfl, SqT.of upd_same, rfl, _, _, rfl, _, _, rfl, rfl, k.nx _ _ G1 _ q s1 (R3.grow np)⟩⟩⟩
theorem jparC3 {i j l : Nat} {x y z : Str} {a b c : Expr} {w : DMs} {px py pz pt : Pos} {kt k2 pt2} (hc : X.calm = true) (hN : X.N.Nodup) (hi : X.N[i]? = some x) (hj : X.N[j]? = some y) (hl : X.N[l]? = some z) (ha : JMs X [a, b, c] w) (hx : Loc X.env.scope x := by first | exact .inl rfl | exact .inr rfl) (hy : Loc X.env.scope y := by first | exact .inl rfl | exact .inr rfl) (hz : Loc X.env.scope z := by first | exact .inl rfl | exact .inr rfl)
    (fx : X.fn x = true ∨ X.env.scope.names.lookup x = some .local := by first | exact .inl rfl | exact .inr rfl) (fy : X.fn y = true ∨ X.env.scope.names.lookup y = some .local := by first | exact .inl rfl | exact .inr rfl) (fz : X.fn z = true ∨ X.env.scope.names.lookup z = some .local := by first | exact .inl rfl | exact .inr rfl)
    (hs : swapsWithSole [.Tuple [.Name x px, .Name y py, .Name z pz] kt pt] (.Tuple [a, b, c] k2 pt2) pos.line X.env = pure false := by rfl) (hw : swappedStores [.Tuple [.Name x px, .Name y py, .Name z pz] kt pt] (.Tuple [a, b, c] k2 pt2) X.env = pure none := by rfl) :
    JS X (.Assign [.Tuple [.Name x px, .Name y py, .Name z pz] kt pt] (.Tuple [a, b, c] k2 pt2) pos) (wPar3 i j l w) := ps_le (ps_asg (pe_tup ha) (pg_tup (n := 3) hc (pgs_cons (pg_name hN hi hx fx) (pgs_cons (pg_name hN hj hy fy) (pgs_cons (pg_name hN hl hz fz) pgs_nil)))) hs hw) fun pins s σ H D I ⟨B, G, δ, E, rel, hw, k⟩ => ⟨B, G, δ, _, rel, hw, fun vs H1 G1 cs δ1 r1 s1 rel1 hB ok1 => by
  obtain ⟨c, d, f, rfl, q⟩ := r1
  cases ok1 with
  | cons h1 d1 t1 =>
    cases t1 with
    | cons h2 d2 t2 =>
      cases t2 with
      | cons h3 d3 t3 =>
        cases t3
        have e : fps [c, d, f] = c.fp ++ (d.fp ++ (f.fp ++ [])) := by simp [fps]
        rw [e] at rel1
        have R2 := Rel.store (i := i) rel1 (fun a m => hB a (by simp [fps, m])) (fun a m => by have := d1 a m; simpa [fps] using this) h1
        have R3 := Rel.store (i := j) R2 (fun a m => hB a (by simp [fps, m])) (fun a m => by have := d2 a m; simpa [fps] using this) h2
        have R4 := Rel.store (i := l) R3 (fun a m => hB a (by simp [fps, m])) (fun a m z => nomatch z) h3
        rw [bov_nil] at R4
        exact ⟨show 3 ≤ sizeLine by decide, fun p np => ⟨p, _, rfl, SqT.of upd_same, rfl, _, _, rfl, _, _, rfl, _, _, rfl, rfl, k.nx _ _ G1 _ q s1 (R4.grow np)⟩⟩⟩
end
end DL
set_option Elab.async false
set_option linter.all false
set_option maxRecDepth 100000
set_option maxHeartbeats 4000000
namespace DL
open PySem PySem.Spec PyProof.Rows L2
variable [Tb]
/-! ### a short tuple many times -/
def rRepW (K : PySem.W.Frag) : R2 := fun x y H Q => ∃ l k xs, x = .ref l ∧ y = .int k ∧ SqT K H l xs ∧ xs ≠ [] ∧ 2 ≤ k ∧ k ≤ 100000 ∧ xs.length ≤ 10 ∧ ∀ p, H p = none → Q (.ref p) (upd H p (.tup (List.replicate k.toNat xs).flatten))
section
variable {X : Cx}
theorem op_repW : OpR X (binaryOp .Mult) (rRepW X.K) := by
  rintro pins s σ H _ _ _ _ Q I rx ry ⟨l, k, xs, rfl, rfl, isT, some', two, many, ten, q⟩
  cases rx
  obtain ⟨tok, rfl⟩ := ry
  obtain ⟨its, vals, ⟨⟨_, dd, _, sl⟩, at_l, rfl, n, rfl⟩, _⟩ := I.tuple isT
  have len := vals.length
  have all : k.toNat * xs.length ≤ 1000000 := Nat.le_trans (Nat.mul_le_mul (show k.toNat ≤ 100000 by omega) ten) (by decide)
  have all' : (its.toArray.size : Int) * k ≤ 1000000 := by
    have h := Int.ofNat_le.mpr all
    rw [Int.natCast_mul, Int.toNat_of_nonneg (by omega)] at h
    rw [List.size_toArray, ← len, Int.mul_comm]
    exact h
  have put : (List.replicate k.toNat its).flatten.length ≤ sizeLine := by rw [PyProof.Rows.lm_len_rep_flat, ← len]; exact Nat.le_trans all (by decide +kernel)
  have there : its.toArray.isEmpty = false := by
    cases vals with
    | nil => exact absurd rfl some'
    | cons => rfl
  have mul := tuple_mulW l its.toArray n dd sl k tok (fits63 (by omega) (by omega)) (by simp [there]; omega) (by simp [there]; omega) (by omega) (decide_eq_false (by rw [sizeLine_eq]; omega)) (by rw [size_rep, List.size_toArray]; exact put)
  rw [size_rep] at mul
  refine mul_asks at_l mul ⟨.ref s.heap.objs.size, _, I.laid (t' := s.toks) (o := .tup (List.replicate k.toNat xs).flatten) (fun _ _ e => Heap.get?_push_of_some _ e) (Nat.le_refl _) ⟨?_, _, vals.rep k.toNat, IsTup.new _ _⟩, rfl, q _ (I.hok.fresh (Nat.le_refl _))⟩
  rw [PyProof.Rows.lm_len_rep_flat]
  exact Nat.le_trans all (by decide +kernel)
def pMulW : P2 := fun x y R => match x, y with
  | .tuple xs, .int k => (0 < xs.length ∧ xs.length ≤ 10 ∧ 2 ≤ k ∧ k ≤ 100000) ∧ R (.tuple (List.replicate k.toNat xs).flatten)
  | _, _ => False
theorem d_mulW : OpD X (binaryOp .Mult) pMulW := by
  intro pins s σ H x y v u Q I rx ry ⟨B, G, δ, σ', dx, dy, R, rel, bx, by', q, k⟩
  cases dx <;> cases dy <;> first | exact False.elim q | skip
  rename_i ds i
  obtain ⟨a, vs, rfl, ha, ta⟩ := bor_tup bx
  obtain ⟨⟨q0, q1, q2, q3⟩, q4⟩ := q
  refine op_repW pins s σ H _ _ v u Q I rx ry ⟨a, i, vs, rfl, bor_int by', sqT_mono rel.sg ha, fun e => ?_, q2, q3, by rw [ta.len]; exact q1, fun p np => ?_⟩
  · rw [← ta.len, e] at q0; simp at q0
  · obtain ⟨rel3, s3⟩ := rel.laid (o := .tup _) np
    exact k _ _ _ _ q4 s3 rel3 (Dn.tup upd_same ((ta.rep _).mono s3))
omit [Tb] in
@[simp ↓] theorem pMulW_ti (xs : List PyData) (k : Int) (R : PyData → Prop) : pMulW (.tuple xs) (.int k) R = ((0 < xs.length ∧ xs.length ≤ 10 ∧ 2 ≤ k ∧ k ≤ 100000) ∧ R (.tuple (List.replicate k.toNat xs).flatten)) := rfl
end
end DL
set_option Elab.async false
set_option linter.all false
set_option maxRecDepth 100000
set_option maxHeartbeats 4000000
namespace DL
open PySem PySem.Spec PyProof.Rows L2
variable [Tb]
/-! ### calls by keywords alone -/
section
variable {X : Cx} {nm : Option Str} {e : Expr} {kws : List Keyword} {kpos : Pos}
abbrev JK (X : Cx) (kws : List Keyword) (w : DA) : Prop := PK X kws (upA X.K w)
theorem pk_le {t t' : TA} (h : PK X kws t) (hw : ∀ (pins : List (Addr × Obj)) (s : Shared) (σ : L2.St) (H : Hp) (Q : List V → Hp → Prop), Inv X pins σ H s → t' σ H Q → t σ H Q) : PK X kws t' :=
  ⟨fun pos pins s σ H Q I q => h.run pos pins s σ H Q I (hw pins s σ H Q I q)⟩
theorem jk_nil : JK X [] wNil := pk_le pk_nil fun pins s σ H Q I ⟨B, G, δ, R, rel, hw, k⟩ => k [] H G _ _ hw (Same.refl _) rel .nil
theorem jk_cons {w : DE} {r : DA} (ha : JE X e w) (hr : JK X kws r) : JK X (⟨nm, e, kpos⟩ :: kws) (wCons w r) :=
  pk_le (pk_cons ha hr) fun pins s σ H Q I ⟨B, G, δ, R, rel, hw, k⟩ =>
    ⟨B, G, δ, _, rel, hw, fun v H1 G1 o δ1 r1 s1 rel1 ok1 => ⟨B, G1, δ1, _, rel1, r1, fun vs H2 G2 os δ2 r2 s2 rel2 ok2 => k (v :: vs) H2 G2 _ _ r2 (s1.trans s2) rel2 (.cons (ok1.mono s2) ok2)⟩⟩
end
/-- in the parameters' order -/
def permO {α : Type} (z : α) (ix : List Nat) (os : List α) : List α := ix.map fun i => os.getD i z
def KB0 (K : PySem.W.Frag) (fd : FuncData) (ps ks : List Str) (ix : List Nat) : Prop :=
  ∀ (s : Shared) (ws : List Value), K.In s.heap → ws.length = ks.length → BindsTo s fd ⟨[], ks.zip ws⟩ (ps.zip (permO Value.none ix ws))
theorem KB0.of {K : PySem.W.Frag} {fd : FuncData} {ps ks : List Str} {ix : List Nat} (h : ∀ ws : List Value, ws.length = ks.length → bindArgs fd ⟨[], ks.zip ws⟩ = pure (ps.zip (permO Value.none ix ws))) : KB0 K fd ps ks ix := fun s ws _ hl => .of_eq (h ws hl)
theorem Fun.kb {K : PySem.W.Frag} {x qual : Str} {st : Stmt} {f : Addr} {fd : FuncData} {ps ks : List Str} {ix : List Nat} (F : Fun K x qual st f fd)
    (h : ∀ (kV doc pm : Value) (an : Option Addr) (cdv ct : Value) (ws : List Value), ws.length = ks.length → bindArgs (PySem.W.fnOf x qual (defArgs st) (defBody st) (defScope st) .none kV doc pm an cdv ct) ⟨[], ks.zip ws⟩ = pure (ps.zip (permO Value.none ix ws))) : KB0 K fd ps ks ix := by
  obtain ⟨oc, od, kV, doc, pm, an, cdv, ct, osl, rfl, lk, hcd⟩ := F.ex
  exact .of (h kV doc pm an cdv ct)
def wCallK (n : Nat) (ix : List Nat) (sp : DSp) (w : DA) : DE := fun δ R => w δ fun os δ1 => lkM [] os δ1 fun os' δ2 => (os'.length = n ∧ ∀ i ∈ ix, i < n) ∧ (slotsOf (permO (.d .none) ix os')).Nodup ∧ sp ((permO (.d .none) ix os').map (cellOf δ2)) fun x cs => R (.d x) (putBack (permO (.d .none) ix os') cs δ2)
theorem getD_some {α : Type} {l : List α} {i : Nat} (h : i < l.length) (z : α) : l[i]? = some (l.getD i z) := by
  rw [List.getD_eq_getElem?_getD, List.getElem?_eq_getElem h]; rfl
theorem perm_vals {vs : List V} {us : List Value} (r : Vals vs us) : ∀ ix : List Nat, (∀ i ∈ ix, i < vs.length) → Vals (permO V.non ix vs) (permO Value.none ix us)
  | [], _ => .nil
  | i :: ix, h => by
    have hi := h i (List.mem_cons_self ..)
    obtain ⟨u, hu, ru⟩ := Vals.get r (getD_some hi V.non)
    have e : us.getD i Value.none = u := by rw [List.getD_eq_getElem?_getD, hu]; rfl
    refine .cons ?_ (perm_vals r ix fun j hj => h j (List.mem_cons_of_mem _ hj))
    show RelV (vs.getD i V.non) (us.getD i Value.none)
    rw [e]; exact ru
theorem perm_opds {K : PySem.W.Frag} {G : Hp} {σ : L2.St} {vs : List V} {os : List Opd} (r : OpdsOk K G σ vs os) : ∀ ix : List Nat, (∀ i ∈ ix, i < os.length) → OpdsOk K G σ (permO V.non ix vs) (permO (.d .none) ix os)
  | [], _ => .nil
  | i :: ix, h => by
    have hi := h i (List.mem_cons_self ..)
    obtain ⟨v, hv, rv⟩ := opds_at r (getD_some hi (.d .none))
    have e : vs.getD i V.non = v := by rw [List.getD_eq_getElem?_getD, hv]; rfl
    refine .cons ?_ (perm_opds r ix fun j hj => h j (List.mem_cons_of_mem _ hj))
    show OpdOk K G σ (vs.getD i V.non) (os.getD i (.d .none))
    rw [e]; exact rv
section
variable {X : Cx} {CX : CXT} {k : Nat} {f : Addr} {fd : FuncData} {ps ks : List Str} {x : Str} {p pos : Pos} {kws : List Keyword} {ix : List Nat}
def tCallKG (n : Nat) (ix : List Nat) (sp : Sp) (E : XK) (tk : TA) : TE := fun σ H Q => tk σ H fun zs H2 => (zs.length = n ∧ ∀ i ∈ ix, i < n) ∧ sp (permO V.non ix zs) H2 Q E
theorem pe_callKG {sp : Sp} {E : XK} {tk : TA} (F : FnG X.prog X.w X.K X.mg X.base CX k f fd ps sp) (hr : RoomG k X.A) (hg : Gl X x) (hm : X.mg x = some (.ref f)) (hk : PySem.W.keepIn X.K (.ref f) = true) (hb : KB0 X.K fd ps ks ix) (hx : Passes CX X E)
    (hkw : PK X kws tk) (hdb : (x == ("__debug__" : Str)) = false := by decide) (hall : (backToKw pos (keywordEach kws X.env)).all (·.1.isSome) = true := by rfl) (hks : (backToKw pos (keywordEach kws X.env)).filterMap (·.1) = ks := by rfl)
    (hpl : ((backTo pos (starEach [] X.env)).any (·.1) || (backToKw pos (keywordEach kws X.env)).any (·.1.isNone)) = false := by rfl) : PE X (.Call (.Name x p) [] kws pos) (tCallKG ks.length ix sp E tk) := by
  refine ⟨fun pins s σ H Q I h => wpAny_Call_Name_kw (ld_glob I hg hm ?_ hdb)⟩
  refine PySem.W.callWith_KW0 (h₀ := X.base) I.ok.mod.kin hk hall (thn (hkw.run pos pins s σ H _ I h) fun ws s1 ⟨zs, H1, I1, r, ⟨hlen, hi⟩, q⟩ => ⟨I1.kIn, ?_⟩) hpl
  rw [hks]
  have r2 := perm_vals r ix fun i hj => by rw [hlen]; exact hi i hj
  have hb' := hb s1 ws I1.kIn (by rw [← r.length]; exact hlen)
  refine wpAny_call (codeAny_mono (F.run X.A X.stack s1 H1 ⟨[], ks.zip ws⟩ (permO Value.none ix ws) (permO V.non ix zs) Q E hr I1.env0 hb' r2 q) fun r s' hq => ?_)
  cases r with
  | error e => exact hx pins σ H1 s1 e s' I1 hq
  | ok fl => cases fl with
    | ret u => exact I1.after hq
    | _ => exact False.elim hq
theorem je_callK {n : Nat} {sp : DSp} {w : DA} (F : FnG X.prog X.w X.K X.mg X.base CX0 k f fd ps (liftSp X.K sp)) (hr : RoomG k X.A) (hg : Gl X x) (hm : X.mg x = some (.ref f)) (hk : PySem.W.keepIn X.K (.ref f) = true) (hb : KB0 X.K fd ps ks ix)
    (hkw : JK X kws w) (hdb : (x == ("__debug__" : Str)) = false := by decide) (hall : (backToKw pos (keywordEach kws X.env)).all (·.1.isSome) = true := by rfl) (hks : (backToKw pos (keywordEach kws X.env)).filterMap (·.1) = ks := by rfl)
    (hpl : ((backTo pos (starEach [] X.env)).any (·.1) || (backToKw pos (keywordEach kws X.env)).any (·.1.isNone)) = false := by rfl) (hn : ks.length = n := by rfl) : JE X (.Call (.Name x p) [] kws pos) (wCallK n ix sp w) := by
  subst hn
  exact pe_le (pe_callKG (E := E0) F hr hg hm hk hb pass0 hkw hdb hall hks hpl) fun pins s σ H Q I ⟨B, G, δ, R, rel, hw, k⟩ => ⟨B, G, δ, _, rel, hw, fun vs H1 G1 os δ1 r1 s1 rel1 ok1 => by
    obtain ⟨G2, δ2, os', ⟨⟨hl, hi⟩, nd, q⟩, s2, rel2, ok2⟩ := lkM_ok rel1 ok1 r1
    have ok3 := perm_opds ok2 ix fun i hj => by rw [hl]; exact hi i hj
    exact ⟨⟨by rw [opds_len ok2, hl], hi⟩, _, G2, _, _, call_rel rel2 ok3 nd, q, fun v H' G' z cs r s3 rel3 dn => k v H' G' _ _ r (s1.trans (s2.trans s3)) (call_back rel2 ok3 nd s3 rel3) dn⟩⟩
end
omit [Tb] in
@[simp ↓] theorem wCallK_ap (n : Nat) (ix : List Nat) (sp : DSp) (w : DA) (δ : DS) (R : Opd → DS → Prop) : wCallK n ix sp w δ R = (w δ fun os δ1 => lkM [] os δ1 fun os' δ2 => (os'.length = n ∧ ∀ i ∈ ix, i < n) ∧ (slotsOf (permO (.d .none) ix os')).Nodup ∧ ask sp ((permO (.d .none) ix os').map (cellOf δ2)) (fun x cs => R (.d x) (putBack (permO (.d .none) ix os') cs δ2)) .mk) := rfl
omit [Tb] in
@[simp ↓] theorem permO_nil {α : Type} (z : α) (os : List α) : permO z [] os = [] := rfl
omit [Tb] in
@[simp ↓] theorem permO_cons {α : Type} (z : α) (i : Nat) (ix : List Nat) (os : List α) : permO z (i :: ix) os = os.getD i z :: permO z ix os := rfl
end DL
set_option Elab.async false
set_option linter.all false
set_option maxRecDepth 100000
set_option maxHeartbeats 4000000
namespace DL
open PySem PySem.Spec PyProof.Rows L2
variable [Tb]
/-! ### dicts of one's own, whose keys are tuples of integers -/
abbrev KVs := List (List Int × PyData)
def valD (kvs : KVs) (k : List Int) : Option PyData := (kvs.find? fun p => decide (p.1 = k)).map (·.2)
def putD (kvs : KVs) (k : List Int) (x : PyData) : KVs := if (kvs.any fun p => decide (p.1 = k)) = true then kvs.map (fun p => if p.1 = k then (p.1, x) else p) else kvs ++ [(k, x)]
theorem keyI_inj : ∀ {a b : List Int}, keyI a = keyI b → a = b
  | [], [], _ => rfl
  | [], _ :: _, h => by simp [keyI] at h
  | _ :: _, [], h => by simp [keyI] at h
  | x :: a, y :: b, h => by
    have h : (Sum.inl x : Key) :: keyI a = (Sum.inl y : Key) :: keyI b := h
    obtain ⟨h1, h2⟩ := List.cons.inj h
    rw [keyI_inj h2, Sum.inl.inj h1]
theorem keyI_V (ns : List Int) : (keyI ns).map kV = ns.map V.int := by
  unfold keyI
  rw [List.map_map]
  rfl
section
variable {K : PySem.W.Frag} {G : Hp}
theorem DnK.nil : DnK K G [] [] := ⟨rfl, .nil⟩
theorem DnK.cons {w : List Key × V} {ws : List (List Key × V)} {p : List Int × PyData} {kvs : KVs} (h1 : w.1 = keyI p.1) (h2 : Dn K G w.2 p.2) (t : DnK K G ws kvs) : DnK K G (w :: ws) (p :: kvs) := ⟨by rw [List.map_cons, List.map_cons, h1, t.1], .cons h2 t.2⟩
theorem DnK.inv {ws : List (List Key × V)} {p : List Int × PyData} {kvs : KVs} (h : DnK K G ws (p :: kvs)) : ∃ w ws', ws = w :: ws' ∧ w.1 = keyI p.1 ∧ Dn K G w.2 p.2 ∧ DnK K G ws' kvs := by
  obtain ⟨h1, h2⟩ := h
  cases ws with
  | nil => simp at h1
  | cons w ws =>
    rw [List.map_cons, List.map_cons] at h1
    obtain ⟨a, b⟩ := List.cons.inj h1
    cases h2 with
    | cons c d => exact ⟨w, ws, rfl, a, c, b, d⟩
theorem DnK.inv0 {ws : List (List Key × V)} (h : DnK K G ws []) : ws = [] := by
  have := h.1
  cases ws with
  | nil => rfl
  | cons w ws => simp at this
theorem DnK.len : ∀ {kvs : KVs} {ws : List (List Key × V)}, DnK K G ws kvs → ws.length = kvs.length
  | [], ws, h => by rw [h.inv0]; rfl
  | p :: kvs, ws, h => by
    obtain ⟨w, ws', rfl, _, _, t⟩ := h.inv
    rw [List.length_cons, List.length_cons, t.len]
theorem DnK.mono {G' : Hp} {kvs : KVs} {ws : List (List Key × V)} (h : DnK K G ws kvs) (s : Same G G') : DnK K G' ws kvs := ⟨h.1, h.2.mono s⟩
theorem DnK.val (k : List Int) : ∀ {kvs : KVs} {ws : List (List Key × V)}, DnK K G ws kvs → (valD kvs k = none ∧ valV ws (keyI k) = none) ∨ ∃ x v, valD kvs k = some x ∧ valV ws (keyI k) = some v ∧ Dn K G v x
  | [], ws, h => by rw [h.inv0]; exact .inl ⟨rfl, rfl⟩
  | p :: kvs, ws, h => by
    obtain ⟨w, ws', rfl, e, d, t⟩ := h.inv
    by_cases q : p.1 = k
    · refine .inr ⟨p.2, w.2, by simp [valD, q], ?_, d⟩
      exact valV_pos (by rw [e, q])
    · have q2 : ¬ w.1 = keyI k := fun z => q (keyI_inj (e.symm.trans z))
      have v1 : valD (p :: kvs) k = valD kvs k := by simp [valD, q]
      rw [v1, valV_neg q2]
      exact t.val k
theorem DnK.snoc {k : List Int} {v : V} {x : PyData} (d : Dn K G v x) : ∀ {kvs : KVs} {ws : List (List Key × V)}, DnK K G ws kvs → DnK K G (ws ++ [(keyI k, v)]) (kvs ++ [(k, x)])
  | [], ws, h => by rw [h.inv0]; exact .cons rfl d .nil
  | p :: kvs, ws, h => by
    obtain ⟨w, ws', rfl, e, d', t⟩ := h.inv
    exact .cons e d' (t.snoc d)
theorem DnK.repl {k : List Int} {v : V} {x : PyData} (d : Dn K G v x) : ∀ {kvs : KVs} {ws : List (List Key × V)}, DnK K G ws kvs → DnK K G (ws.map fun w => if w.1 = keyI k then (w.1, v) else w) (kvs.map fun p => if p.1 = k then (p.1, x) else p)
  | [], ws, h => by rw [h.inv0]; exact .nil
  | p :: kvs, ws, h => by
    obtain ⟨w, ws', rfl, e, d', t⟩ := h.inv
    rw [List.map_cons, List.map_cons]
    refine .cons ?_ ?_ (t.repl d)
    · by_cases q : p.1 = k
      · rw [if_pos (by rw [e, q]), if_pos q]; exact e
      · rw [if_neg fun z => q (keyI_inj (e.symm.trans z)), if_neg q]; exact e
    · by_cases q : p.1 = k
      · rw [if_pos (by rw [e, q]), if_pos q]; exact d
      · rw [if_neg fun z => q (keyI_inj (e.symm.trans z)), if_neg q]; exact d'
theorem DnK.any (k : List Int) : ∀ {kvs : KVs} {ws : List (List Key × V)}, DnK K G ws kvs → (ws.any fun w => decide (w.1 = keyI k)) = kvs.any fun p => decide (p.1 = k)
  | [], ws, h => by rw [h.inv0]; rfl
  | p :: kvs, ws, h => by
    obtain ⟨w, ws', rfl, e, _, t⟩ := h.inv
    rw [List.any_cons, List.any_cons, t.any k]
    congr 1
    rw [decide_eq_decide, e]
    exact ⟨keyI_inj, fun q => by rw [q]⟩
theorem DnK.put {k : List Int} {v : V} {x : PyData} {kvs : KVs} {ws : List (List Key × V)} (h : DnK K G ws kvs) (d : Dn K G v x) : DnK K G (putK ws (keyI k) v) (putD kvs k x) := by
  unfold putK putD
  rw [h.any k]
  split
  · exact h.repl d
  · exact h.snoc d
end
def keyOf (x : PyData) (k : List Int → Prop) (_u : Stop k) : Prop := ∃ ns : List Int, x = .tuple (ns.map PyData.int) ∧ k ns
omit [Tb] in
@[simp ↓] theorem keyOf_t (ns : List Int) (k : List Int → Prop) (u : Stop k) : keyOf (.tuple (ns.map PyData.int)) k u = k ns :=
  propext ⟨fun ⟨ms, e, h⟩ => by rw [map_int_inj (PyData.tuple.inj e)]; exact h, fun h => ⟨ns, rfl, h⟩⟩
def odC (o : Option Cell) (k : Addr → KVs → Prop) (_u : Stop k) : Prop := ∃ a kvs, o = some (.od a kvs) ∧ k a kvs
omit [Tb] in
@[simp ↓] theorem odC_od (a : Addr) (kvs : KVs) (k : Addr → KVs → Prop) (u : Stop k) : odC (some (.od a kvs)) k u = k a kvs :=
  propext ⟨fun ⟨b, ks, e, h⟩ => by cases e; exact h, fun h => ⟨a, kvs, rfl, h⟩⟩
def isOd (δ : DS) (i : Nat) : Prop := ∃ a kvs, δ[i]? = some (.od a kvs)
section
variable {X : Cx} {e f : Expr} {pos pos' px : Pos} {x : Str} {i : Nat}
/-- {} -/
def mD : DM := fun δ R => ∀ a, R (.od a []) δ
theorem jm_dict : JM X (.Dict [] [] pos) mD := pe_le pe_dnewT fun pins s σ H Q I ⟨B, G, δ, R, rel, hw, k⟩ p np => by
  have e : bov B (upd H p (.dT [])) [p] = upd B p (.dT []) := by
    funext b
    unfold bov upd
    by_cases hb : b = p
    · subst hb; simp
    · simp [hb]
  exact k (.ref p) _ G (.od p []) δ (hw p) (Same.refl _) (by show Rel X.K (bov B (upd H p (.dT [])) [p]) G δ σ _; rw [e]; exact rel.growB np) (fun b m => by rw [List.mem_singleton.mp m]; exact rel.freeB np) ⟨rfl, [], upd_same, .nil⟩
theorem key_at {K : PySem.W.Frag} {B G H : Hp} {δ : DS} {σ : L2.St} {v : V} {ns : List Int} (rel : Rel K B G δ σ H) (b : Bor K G H v (.tuple (ns.map PyData.int))) : ∃ q, v = .ref q ∧ H q = some (.tup ((keyI ns).map kV)) := by
  obtain ⟨q, vs, rfl, hq, t⟩ := bor_tupS b
  have := t.toInts
  subst this
  exact ⟨q, rfl, by rw [keyI_V]; exact rel.sg _ _ hq⟩
def wDIn (i : Nat) (w : DE) : DE := fun δ R => w δ fun o δ1 => use o δ1 fun x => keyOf x (fun k => odC δ1[i]? (fun _ kvs => R (.d (.bool (valD kvs k).isSome)) δ1) .mk) .mk
def wDNotIn (i : Nat) (w : DE) : DE := fun δ R => w δ fun o δ1 => use o δ1 fun x => keyOf x (fun k => odC δ1[i]? (fun _ kvs => R (.d (.bool (!(valD kvs k).isSome))) δ1) .mk) .mk
theorem je_din (hu : X.A.units + 64 < cLine) {w : DE} (he : JE X e w) (hx : PE X (.Name x px) (tVar i)) (hm : behindInMarks .In (.Name x px) = false := by rfl) : JE X (.Compare e [.In] [.Name x px] pos) (wDIn i w) :=
  pe_le (pe_cmp (pc_din (Nat.lt_of_le_of_lt (Nat.add_le_add_left (by decide : 1 ≤ 64) _) hu) he hx) hm) fun pins s σ H Q I ⟨B, G, δ, R, rel, hw, k⟩ => ⟨B, G, δ, _, rel, hw, fun v H1 G1 o δ1 r1 s1 rel1 ok1 => by
    obtain ⟨y, ⟨ns, rfl, a, kvs, hδ, q⟩, b1⟩ := use_ok rel1 ok1 r1
    obtain ⟨p, rfl, hp⟩ := key_at rel1 b1
    obtain ⟨o', hσ, rfl, ws, ha, dk⟩ := rel1.at hδ
    refine ⟨.ref a, hσ, a, _, rfl, DGet.t ha hp, ?_⟩
    have e : (valV ws (keyI ns)).isSome = (valD kvs ns).isSome := by
      rcases dk.val ns with ⟨q1, q2⟩ | ⟨x, v, q1, q2, _⟩ <;> rw [q1, q2] <;> rfl
    rw [e]
    exact k _ H1 G1 _ δ1 q s1 rel1 (Dn.bl _)⟩
theorem je_dnotin (hu : X.A.units + 64 < cLine) {w : DE} (he : JE X e w) (hx : PE X (.Name x px) (tVar i)) (hm : behindInMarks .NotIn (.Name x px) = false := by rfl) : JE X (.Compare e [.NotIn] [.Name x px] pos) (wDNotIn i w) :=
  pe_le (pe_cmp (pc_dnotin (Nat.lt_of_le_of_lt (Nat.add_le_add_left (by decide : 1 ≤ 64) _) hu) he hx) hm) fun pins s σ H Q I ⟨B, G, δ, R, rel, hw, k⟩ => ⟨B, G, δ, _, rel, hw, fun v H1 G1 o δ1 r1 s1 rel1 ok1 => by
    obtain ⟨y, ⟨ns, rfl, a, kvs, hδ, q⟩, b1⟩ := use_ok rel1 ok1 r1
    obtain ⟨p, rfl, hp⟩ := key_at rel1 b1
    obtain ⟨o', hσ, rfl, ws, ha, dk⟩ := rel1.at hδ
    refine ⟨.ref a, hσ, a, _, rfl, DGet.t ha hp, ?_⟩
    have e : (valV ws (keyI ns)).isSome = (valD kvs ns).isSome := by
      rcases dk.val ns with ⟨q1, q2⟩ | ⟨x, v, q1, q2, _⟩ <;> rw [q1, q2] <;> rfl
    rw [e]
    exact k _ H1 G1 _ δ1 q s1 rel1 (Dn.bl _)⟩
/-- d[k] -/
def wDGet (i : Nat) (w : DE) : DE := fun δ R => isOd δ i ∧ w δ fun o δ1 => use o δ1 fun x => keyOf x (fun k => odC δ1[i]? (fun _ kvs => onS (valD kvs k) (fun y => R (.d y) δ1) .mk) .mk) .mk
theorem je_dget (hu : X.A.units + 64 < cLine) {w : DE} (he : JE X e w) (hx : PE X (.Name x px) (tVar i)) (hs : NoSl e := by exact fun _ _ => rfl) : JE X (.Subscript (.Name x px) e pos) (wDGet i w) :=
  pe_le (pe_dget (Nat.lt_of_le_of_lt (Nat.add_le_add_left (by decide : 1 ≤ 64) _) hu) hx he hs) fun pins s σ H Q I ⟨B, G, δ, R, rel, ⟨⟨a0, k0, h0⟩, hw⟩, k⟩ => by
    obtain ⟨o0, hσ0, rfl, _⟩ := rel.at h0
    refine ⟨.ref a0, hσ0, B, G, δ, _, rel, hw, fun v H1 G1 o δ1 r1 s1 rel1 ok1 => ?_⟩
    obtain ⟨y, ⟨ns, rfl, a, kvs, hδ, q⟩, b1⟩ := use_ok rel1 ok1 r1
    obtain ⟨p, rfl, hp⟩ := key_at rel1 b1
    obtain ⟨o', hσ, rfl, ws, ha, dk⟩ := rel1.at hδ
    rw [hσ] at hσ0; cases hσ0
    rcases dk.val ns with ⟨q1, q2⟩ | ⟨x, v, q1, q2, dn⟩
    · rw [q1] at q
      exact False.elim (by simp [onS] at q)
    · rw [q1] at q
      exact ⟨_, v, rfl, by rw [← q2]; exact DGet.t ha hp, k v H1 G1 (.d x) δ1 (by simpa [onS] using q) s1 rel1 dn⟩
/-- d[k] = v -/
def wDPut (i : Nat) (wk wv : DE) : DTS := fun E δ => isOd δ i ∧ wv δ fun o δ1 => lk o δ1 fun x δ2 => wk δ2 fun o2 δ3 => use o2 δ3 fun y => keyOf y (fun k => odC δ3[i]? (fun a kvs => kvs.length ≤ 1000000 ∧ E.nx (δ3.set i (.od a (putD kvs k x)))) .mk) .mk
theorem js_dput (hu : X.A.units + 64 < cLine) {wk wv : DE} (hx : PE X (.Name x px) (tVar i)) (hk : JE X e wk) (hv : JE X f wv) (hs : swapsWith f (some (.Subscript (.Name x px) e pos')) pos.line X.env = pure false := by rfl) : JS X (.Assign [.Subscript (.Name x px) e pos'] f pos) (wDPut i wk wv) :=
  ps_le (ps_dput (Nat.lt_of_le_of_lt (Nat.add_le_add_left (by decide : 1 ≤ 64) _) hu) hx hk hv hs) fun pins s σ H D I ⟨B, G, δ, E, rel, ⟨⟨a0, k0, h0⟩, hw⟩, k⟩ => by
    obtain ⟨o0, hσ0, rfl, _⟩ := rel.at h0
    refine ⟨B, G, δ, _, rel, hw, fun v H1 G1 o δ1 r1 s1 rel1 ok1 => ⟨.ref a0, hσ0, ?_⟩⟩
    obtain ⟨G2, δ2, z, q2, s2, rel2, dn⟩ := lk_ok rel1 ok1 r1
    refine ⟨B, G2, δ2, _, rel2, q2, fun y H3 G3 o2 δ3 r3 s3 rel3 ok3 => ?_⟩
    obtain ⟨w, ⟨ns, rfl, a, kvs, hδ, hl, q⟩, b1⟩ := use_ok rel3 ok3 r3
    obtain ⟨p, rfl, hp⟩ := key_at rel3 b1
    obtain ⟨o', hσ, rfl, ws, ha, dk⟩ := rel3.at hδ
    rw [hσ] at hσ0; cases hσ0
    refine ⟨_, _, rfl, DPut.t ha hp (by rw [dk.len, sizeLine_eq]; omega), ?_⟩
    have dn3 := Dn.mono s3 _ dn
    exact k.nx _ _ G3 _ q ((s1.trans s2).trans s3) (rel3.put hδ hσ (by simp [Cell.fp]) rfl ⟨rfl, _, upd_same, dk.put dn3⟩)
end
omit [Tb] in
@[simp ↓] theorem mD_ap (δ : DS) (R : Cell → DS → Prop) : mD δ R = ∀ a, R (.od a []) δ := rfl
omit [Tb] in
@[simp ↓] theorem wDIn_ap (i : Nat) (w : DE) (δ : DS) (R : Opd → DS → Prop) : wDIn i w δ R = (w δ fun o δ1 => use o δ1 fun x => keyOf x (fun k => odC δ1[i]? (fun _ kvs => R (.d (.bool (valD kvs k).isSome)) δ1) .mk) .mk) := rfl
omit [Tb] in
@[simp ↓] theorem wDNotIn_ap (i : Nat) (w : DE) (δ : DS) (R : Opd → DS → Prop) : wDNotIn i w δ R = (w δ fun o δ1 => use o δ1 fun x => keyOf x (fun k => odC δ1[i]? (fun _ kvs => R (.d (.bool (!(valD kvs k).isSome))) δ1) .mk) .mk) := rfl
omit [Tb] in
@[simp ↓] theorem wDGet_ap (i : Nat) (w : DE) (δ : DS) (R : Opd → DS → Prop) : wDGet i w δ R = (isOd δ i ∧ w δ fun o δ1 => use o δ1 fun x => keyOf x (fun k => odC δ1[i]? (fun _ kvs => onS (valD kvs k) (fun y => R (.d y) δ1) .mk) .mk) .mk) := rfl
omit [Tb] in
@[simp ↓] theorem wDPut_ap (i : Nat) (wk wv : DE) (E : DEnds) (δ : DS) : wDPut i wk wv E δ = (isOd δ i ∧ wv δ fun o δ1 => lk o δ1 fun x δ2 => wk δ2 fun o2 δ3 => use o2 δ3 fun y => keyOf y (fun k => odC δ3[i]? (fun a kvs => kvs.length ≤ 1000000 ∧ E.nx (δ3.set i (.od a (putD kvs k x)))) .mk) .mk) := rfl
omit [Tb] in
@[simp ↓] theorem isOd_od (a : Addr) (kvs : KVs) (δ : DS) (i : Nat) (h : δ[i]? = some (.od a kvs)) : isOd δ i = True := eq_true ⟨a, kvs, h⟩
omit [Tb] in
@[simp ↓] theorem varC_od (a : Addr) (kvs : KVs) (i : Nat) (k : Opd → Prop) (u : Stop k) : varC (some (.od a kvs)) i k u = k (.s i) := rfl
omit [Tb] in
@[simp] theorem sameIo_od (a : Addr) (xs : KVs) (cs : List Cell) (e : Cell) (δ : DS) : sameIo (.od a xs :: cs) (e :: δ) = ((∃ ys, e = .od a ys) ∧ sameIo cs δ) := rfl
omit [Tb] in
@[simp] theorem outC_od (a : Addr) (xs : KVs) (cs : List Cell) (e : Cell) (δ : DS) : outC (.od a xs :: cs) (e :: δ) = e :: outC cs δ := rfl
end DL
set_option Elab.async false
set_option linter.all false
set_option maxRecDepth 100000
set_option maxHeartbeats 4000000
namespace DL
open PySem PySem.Spec PyProof.Rows L2
variable [Tb]
/-! ### x < y over integers and tuples of data -/
def pLtT : P2 := fun x y R => match x, y with
  | .int i, .int j => R (.bool (decide (i < j)))
  | .tuple xs, .tuple ys => W.alike (.tuple xs) (.tuple ys) = true ∧ (PyData.tuple xs).depth ≤ 50 ∧ R (.bool (W.dataLt (.tuple xs) (.tuple ys)))
  | _, _ => False
section
variable {X : Cx}
theorem d_ltT (hu : X.A.units + 64 < cLine) : OpD X (compareOp .Lt) pLtT := by
  intro pins s σ H x y v u Q I rx ry ⟨B, G, δ, σ', dx, dy, R, rel, bx, by', q, k⟩
  cases dx <;> cases dy <;> first | exact False.elim q | skip
  · exact op_lt pins s σ H x y v u Q I rx ry ⟨_, _, bor_int bx, bor_int by', k _ H G _ q (Same.refl _) rel (Dn.bl _)⟩
  · rename_i xs ys
    obtain ⟨q1, q2, q3⟩ := q
    have b1 : Dn X.K H x (.tuple xs) := by
      obtain ⟨a, vs, rfl, ha, ta⟩ := bor_tupS bx
      exact .tup (rel.sg _ _ ha) (ta.mono rel.sg)
    have b2 : Dn X.K H y (.tuple ys) := by
      obtain ⟨a, vs, rfl, ha, ta⟩ := bor_tupS by'
      exact .tup (rel.sg _ _ ha) (ta.mono rel.sg)
    obtain ⟨as, r1⟩ := (Dn.rdN I _ b1 rx).reads
    obtain ⟨bs, r2⟩ := (Dn.rdN I _ b2 ry).reads
    have := W.rcLt_alike _ _ X.A s v u as bs r1 r2 q1 (fun e => by cases e) (by have := Nat.min_le_left (PyData.tuple xs).depth (PyData.tuple ys).depth; omega)
    exact this X.prog X.w _ _ ⟨.bl _, H, I, rfl, k _ H G _ q3 (Same.refl _) rel (Dn.bl _)⟩
end
omit [Tb] in
@[simp ↓] theorem pLtT_ii (i j : Int) (R : PyData → Prop) : pLtT (.int i) (.int j) R = R (.bool (decide (i < j))) := rfl
omit [Tb] in
@[simp ↓] theorem pLtT_tt (xs ys : List PyData) (R : PyData → Prop) : pLtT (.tuple xs) (.tuple ys) R = (W.alike (.tuple xs) (.tuple ys) = true ∧ (PyData.tuple xs).depth ≤ 50 ∧ R (.bool (W.dataLt (.tuple xs) (.tuple ys)))) := rfl
end DL
set_option Elab.async false
set_option linter.all false
set_option maxRecDepth 100000
set_option maxHeartbeats 4000000
namespace DL
open PySem PySem.Spec PyProof.Rows L2
variable [Tb]
/-! ### k in d, as a test -/
section
variable {X : Cx} {e f : Expr} {pos pos' px : Pos} {x : Str} {i : Nat}
theorem jt_din (hu : X.A.units + 64 < cLine) {w : DE} (he : JE X e w) (hx : PE X (.Name x px) (tVar i)) (hm : behindInMarks .In (.Name x px) = false := by rfl) : JT X (.Compare e [.In] [.Name x px] pos) (wB (wDIn i w)) :=
  pt_le (pt_cmp (pc_din (Nat.lt_of_le_of_lt (Nat.add_le_add_left (by decide : 1 ≤ 64) _) hu) he hx) hm) fun pins s σ H Q I h => by
    obtain ⟨B, G, δ, R, rel, hw, k⟩ := b_up h
    exact ⟨B, G, δ, _, rel, hw, fun v H1 G1 o δ1 r1 s1 rel1 ok1 => by
      obtain ⟨y, ⟨ns, rfl, a, kvs, hδ, q⟩, b1⟩ := use_ok rel1 ok1 r1
      obtain ⟨p, rfl, hp⟩ := key_at rel1 b1
      obtain ⟨o', hσ, rfl, ws, ha, dk⟩ := rel1.at hδ
      refine ⟨.ref a, hσ, a, _, rfl, DGet.t ha hp, ?_⟩
      have e : (valV ws (keyI ns)).isSome = (valD kvs ns).isSome := by
        rcases dk.val ns with ⟨q1, q2⟩ | ⟨x, v, q1, q2, _⟩ <;> rw [q1, q2] <;> rfl
      rw [e]
      exact k _ H1 G1 _ δ1 q s1 rel1 (Dn.bl _)⟩
theorem jt_dnotin (hu : X.A.units + 64 < cLine) {w : DE} (he : JE X e w) (hx : PE X (.Name x px) (tVar i)) (hm : behindInMarks .NotIn (.Name x px) = false := by rfl) : JT X (.Compare e [.NotIn] [.Name x px] pos) (wB (wDNotIn i w)) :=
  pt_le (pt_cmp (pc_dnotin (Nat.lt_of_le_of_lt (Nat.add_le_add_left (by decide : 1 ≤ 64) _) hu) he hx) hm) fun pins s σ H Q I h => by
    obtain ⟨B, G, δ, R, rel, hw, k⟩ := b_up h
    exact ⟨B, G, δ, _, rel, hw, fun v H1 G1 o δ1 r1 s1 rel1 ok1 => by
      obtain ⟨y, ⟨ns, rfl, a, kvs, hδ, q⟩, b1⟩ := use_ok rel1 ok1 r1
      obtain ⟨p, rfl, hp⟩ := key_at rel1 b1
      obtain ⟨o', hσ, rfl, ws, ha, dk⟩ := rel1.at hδ
      refine ⟨.ref a, hσ, a, _, rfl, DGet.t ha hp, ?_⟩
      have e : (valV ws (keyI ns)).isSome = (valD kvs ns).isSome := by
        rcases dk.val ns with ⟨q1, q2⟩ | ⟨x, v, q1, q2, _⟩ <;> rw [q1, q2] <;> rfl
      rw [e]
      exact k _ H1 G1 _ δ1 q s1 rel1 (Dn.bl _)⟩
end
end DL
set_option Elab.async false
set_option linter.all false
set_option maxRecDepth 100000
set_option maxHeartbeats 4000000
namespace DL
open PySem PySem.Spec PyProof.Rows L2
variable [Tb]
/-! ### a def that gives away a dict of its own: its last statement returns the slot i -/
def endsMD (i : Nat) (cs : List Cell) (R : Cell → List Cell → Prop) : DEnds := { nx := fun δ => sameIo cs δ ∧ cs.length ≤ i ∧ ∃ a xs, δ[i]? = some (.od a xs) ∧ R (.od a xs) (outC cs δ), rt := fun _ _ => False }
section
variable {P : Program} {w : World} {K : PySem.W.Frag} {mg : Str → Option Value} {base : Heap}
theorem okMD {x qual : Str} {st : Stmt} {f : Addr} {fd : FuncData} {N ps : List Str} {k i : Nat} {sp : DSpM} {wb : DTS} (F : Fun K x qual st f fd) (S : FnScope N ps (defScope st)) (dl : ∀ cs R, sp cs R → cs.length = ps.length)
    (body : ∀ (cdv : Value) (A : Around) (outer : List Env) (s : Shared) (H : Hp) (E : XK), RoomG k (A.deeper (envOfC qual (defScope st) s.heap.objs.size f cdv)) → JSsM (cxOf CX0 P w K mg base N qual (defScope st) f cdv A outer s H E).nox i (defBody st) wb)
    (rd : ∀ cs R, sp cs R → wb (endsMD i cs R) (start0 N.length cs)) : FnG P w K mg base CX0 (k + 1) f fd ps (liftM K sp) := by
  obtain ⟨oc, od, kV, doc, pm, an, cdv, ct, osl, rfl, lk, hcd⟩ := F.ex
  refine fnG_of lk hcd S (fun vs H Q E ⟨B, G, cs, R, rel, hs, _⟩ => by rw [← dl cs R hs, ← rel.len, List.length_map]) fun A outer s H vs Q E hr ⟨B, G, cs, R, rel, hs, kk⟩ => ?_
  refine ⟨_, (body cdv A outer s H E hr).nox, B, G, _, endsMD i cs R, rel_start rel, rd cs R hs, ?_, fun _ _ h => h, fun _ h => h, fun _ h => h⟩
  rintro σ' H' G' δ' ⟨io, hi, a, xs, hδ, r⟩ sG rel'
  obtain ⟨o, hσ, ok⟩ := rel'.at hδ
  have ok' : CellOk K G' H' (.od a xs) o := ok
  obtain ⟨rfl, ws, ha, t⟩ := ok
  refine ⟨.ref a, hσ, ?_⟩
  have fr := rel'.fr i _ a hδ (by simp [Cell.fp])
  have rel2 := rel_end rel rel' sG io
  refine kk (.ref a) H' G' (.od a xs) _ r sG (rel2.more (fun b m => ?_) fun j c b e m mb => ?_) (fun b m => ?_) ok'
  · have : b = a := by simpa [Cell.fp] using m
    rw [this]; exact fr.1
  · have : b = a := by simpa [Cell.fp] using mb
    subst this
    have hj := outC_take e
    obtain ⟨c0, e0, q⟩ := outC_at io e
    have hd : δ'[j]? = some c := by
      rcases q with ⟨h, rfl⟩ | ⟨a, xs, ys, rfl, rfl, ed⟩ | ⟨a, b, d, rfl, rfl, ed⟩ | ⟨a, xs, ys, rfl, rfl, ed⟩
      · rcases h with ⟨x, rfl⟩ | rfl | ⟨a, ns, rfl⟩ <;> cases m
      · exact ed
      · exact ed
      · exact ed
    have := rel'.ap j i c _ b hd hδ m (by simp [Cell.fp])
    omega
  · have : b = a := by simpa [Cell.fp] using m
    rw [this]; exact fr.2
end
end DL
set_option Elab.async false
set_option linter.all false
set_option maxRecDepth 100000
set_option maxHeartbeats 4000000
namespace DL
open PySem PySem.Spec PyProof.Rows L2
variable [Tb]
/-! ### xs[i] += c, on a list of one's own -/
def rGetL (K : PySem.W.Frag) : V → V → Hp → VK → Prop := fun x y H Q => ∃ p xs i v, x = .ref p ∧ y = .int i ∧ 0 ≤ i ∧ SqL K H p xs ∧ xs[i.toNat]? = some v ∧ Q v H
theorem get_list {X : Cx} : PGet X (rGetL X.K) := by
  intro pins s σ H x y v u Q I rx ry h
  obtain ⟨p, xs, i, z, rfl, rfl, h0, hq, he, q⟩ := h
  cases rx
  obtain ⟨t, rfl⟩ := ry
  obtain ⟨its, r, pl, hz⟩ := I.list hq
  obtain ⟨w, ew, rw'⟩ := r.get he
  have hl := r.length
  have hn := line63
  have hlt := (List.getElem?_eq_some_iff.mp he).1
  exact wpAny_getItem_list pl.isList h0 (by omega) (x := w) (by simpa using ew) ⟨z, H, I, rw', q⟩
def wAugS (i : Nat) (wi : DE) (c : Int) : DTS := fun E δ => isOl δ i ∧ wi δ fun oj δ1 => use oj δ1 fun j => asI j (fun jn => olC δ1[i]? (fun a xs => 0 ≤ jn ∧ onS xs[jn.toNat]? (fun x => asI x (fun m => E.nx (δ1.set i (.ol a (xs.set jn.toNat (.int (m + c)))))) .mk) .mk) .mk) .mk
omit [Tb] in
@[simp ↓] theorem wAugS_ap (i : Nat) (wi : DE) (c : Int) (E : DEnds) (δ : DS) : wAugS i wi c E δ = (isOl δ i ∧ wi δ fun oj δ1 => use oj δ1 fun j => asI j (fun jn => olC δ1[i]? (fun a xs => 0 ≤ jn ∧ onS xs[jn.toNat]? (fun x => asI x (fun m => E.nx (δ1.set i (.ol a (xs.set jn.toNat (.int (m + c)))))) .mk) .mk) .mk) .mk) := rfl
section
variable {X : Cx} {e : Expr} {pos px p1 p2 : Pos} {x : Str} {i : Nat}
theorem js_augS {c : Int} {kk} {wi : DE} (hx : PE X (.Name x px) (tVar i)) (hi : JE X e wi) (hs : ∀ ov iv new, augStore e ov iv new = (do holding [new, ov, iv] (setItem ov iv new); release [new, ov, iv] []; pure .next) := by intros; rfl) : JS X (.AugAssign (.Subscript (.Name x px) e p1) .Add (.Constant (.int c) kk p2) pos) (wAugS i wi c) :=
  ps_le (ps_augS hx hi get_list pe_int ip_add set_list hs) fun pins s σ H D I ⟨B, G, δ, E, rel, ⟨⟨a0, xs0, h0⟩, hw⟩, k⟩ => by
    obtain ⟨o0, hσ0, rfl, vs0, hv0, t0⟩ := rel.at h0
    refine ⟨.ref a0, hσ0, B, G, δ, _, rel, hw, fun v H1 G1 o δ1 r1 s1 rel1 ok1 => ?_⟩
    obtain ⟨y, q, b1⟩ := use_ok rel1 ok1 r1
    obtain ⟨jn, rfl, q⟩ := asI_inv (u := .mk) q
    obtain ⟨a, xs, hδ, hj, q⟩ := olC_inv (u := .mk) q
    obtain ⟨z, hz, q⟩ := onS_inv (u := .mk) q
    obtain ⟨m, rfl, q⟩ := asI_inv (u := .mk) q
    obtain ⟨o', hσ, rfl, vs, hv, t⟩ := rel1.at hδ
    rw [hσ0] at hσ; cases hσ
    obtain ⟨w, hw', dw⟩ := t.get hz
    cases dw
    have hlt := (List.getElem?_eq_some_iff.mp hw').1
    refine ⟨a0, vs, jn, .int m, rfl, bor_int b1, hj, SqL.of hv, hw', ?_⟩
    refine ⟨m, c, rfl, rfl, ?_⟩
    refine ⟨a0, vs, jn, jn.toNat, rfl, bor_int b1, hv, by unfold ixN; rw [if_pos hj, if_pos (by omega)], ?_⟩
    exact k.nx _ _ G1 _ q s1 (rel1.write hδ (DnL.set (Dn.int _) _ t))
end
end DL
set_option Elab.async false
set_option linter.all false
set_option maxRecDepth 100000
set_option maxHeartbeats 4000000
namespace DL
open PySem PySem.Spec PyProof.Rows L2
variable [Tb]
/-! ### x <= y over integers and tuples of data -/
def pLeT : P2 := fun x y R => match x, y with
  | .int i, .int j => R (.bool (decide (i ≤ j)))
  | .tuple xs, .tuple ys => W.alike (.tuple xs) (.tuple ys) = true ∧ (PyData.tuple xs).depth ≤ 50 ∧ R (.bool (!W.dataLt (.tuple ys) (.tuple xs)))
  | _, _ => False
section
variable {X : Cx}
theorem d_leT (hu : X.A.units + 64 < cLine) : OpD X (compareOp .LtE) pLeT := by
  intro pins s σ H x y v u Q I rx ry ⟨B, G, δ, σ', dx, dy, R, rel, bx, by', q, k⟩
  cases dx <;> cases dy <;> first | exact False.elim q | skip
  · exact op_le pins s σ H x y v u Q I rx ry ⟨_, _, bor_int bx, bor_int by', k _ H G _ q (Same.refl _) rel (Dn.bl _)⟩
  · rename_i xs ys
    obtain ⟨q1, q2, q3⟩ := q
    have b1 : Dn X.K H x (.tuple xs) := by
      obtain ⟨a, vs, rfl, ha, ta⟩ := bor_tupS bx
      exact .tup (rel.sg _ _ ha) (ta.mono rel.sg)
    have b2 : Dn X.K H y (.tuple ys) := by
      obtain ⟨a, vs, rfl, ha, ta⟩ := bor_tupS by'
      exact .tup (rel.sg _ _ ha) (ta.mono rel.sg)
    obtain ⟨as, r1⟩ := (Dn.rdN I _ b1 rx).reads
    obtain ⟨bs, r2⟩ := (Dn.rdN I _ b2 ry).reads
    have := W.rcLe_alike _ _ X.A s v u as bs r1 r2 q1 (fun e => by cases e) (by have := Nat.min_le_left (PyData.tuple xs).depth (PyData.tuple ys).depth; omega)
    exact this X.prog X.w _ _ ⟨.bl _, H, I, rfl, k _ H G _ q3 (Same.refl _) rel (Dn.bl _)⟩
end
omit [Tb] in
@[simp ↓] theorem pLeT_ii (i j : Int) (R : PyData → Prop) : pLeT (.int i) (.int j) R = R (.bool (decide (i ≤ j))) := rfl
omit [Tb] in
@[simp ↓] theorem pLeT_tt (xs ys : List PyData) (R : PyData → Prop) : pLeT (.tuple xs) (.tuple ys) R = (W.alike (.tuple xs) (.tuple ys) = true ∧ (PyData.tuple xs).depth ≤ 50 ∧ R (.bool (!W.dataLt (.tuple ys) (.tuple xs)))) := rfl
end DL
set_option Elab.async false
set_option linter.all false
set_option maxRecDepth 100000
set_option maxHeartbeats 4000000
namespace DL
open PySem PySem.Spec PyProof.Rows L2
variable [Tb]
/-! ### a fresh list, one or another -/
def wIfL (t : DT) (la lb : DL) : DL := fun δ R => t δ fun k δ1 => if k = true then la δ1 R else lb δ1 R
theorem jl_ifE {X : Cx} {c a b : Expr} {pos : Pos} {t : DT} {wa wb : DL} (hc : JT X c t) (ha : JL X a wa) (hb : JL X b wb) : JL X (.IfExp c a b pos) (wIfL t wa wb) :=
  pe_le (pe_ifExp hc ha hb) fun pins s σ H Q I ⟨B, G, δ, R, rel, hw, k⟩ => ⟨B, G, δ, _, rel, hw, fun d H1 G1 δ1 r1 s1 rel1 => by
    cases d with
    | true => rw [if_pos rfl] at r1 ⊢; exact ⟨B, G1, δ1, _, rel1, r1, fun a vs H2 G2 xs δ2 r2 s2 rel2 => k a vs H2 G2 xs δ2 r2 (s1.trans s2) rel2⟩
    | false => rw [if_neg Bool.false_ne_true] at r1 ⊢; exact ⟨B, G1, δ1, _, rel1, r1, fun a vs H2 G2 xs δ2 r2 s2 rel2 => k a vs H2 G2 xs δ2 r2 (s1.trans s2) rel2⟩⟩
omit [Tb] in
@[simp ↓] theorem wIfL_ap (t : DT) (la lb : DL) (δ : DS) (R : List PyData → DS → Prop) : wIfL t la lb δ R = (t δ fun k δ1 => if k = true then la δ1 R else lb δ1 R) := rfl
end DL
set_option Elab.async false
set_option linter.all false
set_option maxRecDepth 100000
set_option maxHeartbeats 4000000
namespace DL
open PySem PySem.Spec PyProof.Rows L2
variable [Tb]
open PySem.SeqAt
open AutoSeq1 (wpAny_loadPart')
open MeetsSeq
/-! ### == of what is no dict with a dict; membership of data with empty dicts within -/
def IsD (h : Heap) (a : Addr) : Prop := ∃ o es n, h.get? a = some o ∧ o.cls = .type "dict" ∧ o.data = .dict es n
section
variable {A : Around} {s : Shared} {l b : Addr} {es : Array DictEntry} {its : Array Value} {n m : Nat} {dd de : Option Addr} {sl sm : Array (Option Value)}
abbrev DictAt (h : Heap) (l : Addr) (es : Array DictEntry) (n : Nat) (dd : Option Addr) (sl : Array (Option Value)) : Prop := h.get? l = some { cls := .type "dict", dict := dd, data := .dict es n, slots := sl }
abbrev RowAt (T : String) (h : Heap) (b : Addr) (its : Array Value) (m : Nat) (de : Option Addr) (sm : Array (Option Value)) : Prop := h.get? b = some { cls := .type T, dict := de, data := .seq its m, slots := sm }
theorem away_none : Meets (Builtin.«dict.__eq__» ⟨[.ref l, .none], []⟩) (fun _ R z => DictAt z.heap l es n dd sl ∧ R (.ok (.ret .notImplemented)) z) := by
  refine .of_wp fun prog w A R ⟨hp, gs, dr, tk, os⟩ h => ?_
  have away := F.sub_NoneType_dict
  obtain ⟨at_l, h⟩ := h
  wp_walk using wpAny_loadPart' at_l
  exact ⟨_, rfl, h⟩
theorem away_bool (x : Bool) : Meets (Builtin.«dict.__eq__» ⟨[.ref l, .bool x], []⟩) (fun _ R z => DictAt z.heap l es n dd sl ∧ R (.ok (.ret .notImplemented)) z) := by
  refine .of_wp fun prog w A R ⟨hp, gs, dr, tk, os⟩ h => ?_
  have away := F.sub_bool_dict
  obtain ⟨at_l, h⟩ := h
  wp_walk using wpAny_loadPart' at_l
  exact ⟨_, rfl, h⟩
theorem away_int (x : Int) (u : Tok) : Meets (Builtin.«dict.__eq__» ⟨[.ref l, .int x u], []⟩) (fun _ R z => DictAt z.heap l es n dd sl ∧ R (.ok (.ret .notImplemented)) z) := by
  refine .of_wp fun prog w A R ⟨hp, gs, dr, tk, os⟩ h => ?_
  have away := F.sub_int_dict
  obtain ⟨at_l, h⟩ := h
  wp_walk using wpAny_loadPart' at_l
  exact ⟨_, rfl, h⟩
theorem away_str (x : Str) (u : Tok) : Meets (Builtin.«dict.__eq__» ⟨[.ref l, .str x u], []⟩) (fun _ R z => DictAt z.heap l es n dd sl ∧ R (.ok (.ret .notImplemented)) z) := by
  refine .of_wp fun prog w A R ⟨hp, gs, dr, tk, os⟩ h => ?_
  have away := F.sub_str_dict
  obtain ⟨at_l, h⟩ := h
  wp_walk using wpAny_loadPart' at_l
  exact ⟨_, rfl, h⟩
theorem bool_away (x : Bool) : Meets (Builtin.«int.__eq__» ⟨[.bool x, .ref l], []⟩) (fun _ R z => DictAt z.heap l es n dd sl ∧ R (.ok (.ret .notImplemented)) z) := by
  refine .of_wp fun prog w A R ⟨hp, gs, dr, tk, os⟩ h => ?_
  obtain ⟨at_l, h⟩ := h
  wp_walk using wpAny_loadPart' at_l, wpAny_load at_l
  exact ⟨_, rfl, h⟩
theorem int_away (x : Int) (u : Tok) : Meets (Builtin.«int.__eq__» ⟨[.int x u, .ref l], []⟩) (fun _ R z => DictAt z.heap l es n dd sl ∧ R (.ok (.ret .notImplemented)) z) := by
  refine .of_wp fun prog w A R ⟨hp, gs, dr, tk, os⟩ h => ?_
  obtain ⟨at_l, h⟩ := h
  wp_walk using wpAny_loadPart' at_l, wpAny_load at_l
  exact ⟨_, rfl, h⟩
theorem str_away (x : Str) (u : Tok) : Meets (Builtin.«str.__eq__» ⟨[.str x u, .ref l], []⟩) (fun _ R z => DictAt z.heap l es n dd sl ∧ R (.ok (.ret .notImplemented)) z) := by
  refine .of_wp fun prog w A R ⟨hp, gs, dr, tk, os⟩ h => ?_
  obtain ⟨at_l, h⟩ := h
  wp_walk using wpAny_loadPart' at_l, wpAny_load at_l
  exact ⟨_, rfl, h⟩
theorem away_list : Meets (Builtin.«dict.__eq__» ⟨[.ref l, .ref b], []⟩) (fun _ R z => DictAt z.heap l es n dd sl ∧ RowAt "list" z.heap b its m de sm ∧ R (.ok (.ret .notImplemented)) z) := by
  refine .of_wp fun prog w A R ⟨hp, gs, dr, tk, os⟩ h => ?_
  have away := F.sub_list_dict
  obtain ⟨at_l, at_b, h⟩ := h
  wp_walk using wpAny_loadPart' at_l, wpAny_loadPart' at_b
  exact ⟨_, rfl, h⟩
theorem list_away : Meets (Builtin.«list.__eq__» ⟨[.ref b, .ref l], []⟩) (fun _ R z => DictAt z.heap l es n dd sl ∧ RowAt "list" z.heap b its m de sm ∧ R (.ok (.ret .notImplemented)) z) := by
  refine .of_wp fun prog w A R ⟨hp, gs, dr, tk, os⟩ h => ?_
  have away := F.sub_dict_list
  obtain ⟨at_l, at_b, h⟩ := h
  wp_walk using wpAny_loadPart' at_b, wpAny_loadPart' at_l
  exact ⟨_, rfl, h⟩
theorem away_tuple : Meets (Builtin.«dict.__eq__» ⟨[.ref l, .ref b], []⟩) (fun _ R z => DictAt z.heap l es n dd sl ∧ RowAt "tuple" z.heap b its m de sm ∧ R (.ok (.ret .notImplemented)) z) := by
  refine .of_wp fun prog w A R ⟨hp, gs, dr, tk, os⟩ h => ?_
  have away := F.sub_tuple_dict
  obtain ⟨at_l, at_b, h⟩ := h
  wp_walk using wpAny_loadPart' at_l, wpAny_loadPart' at_b
  exact ⟨_, rfl, h⟩
theorem tuple_away : Meets (Builtin.«tuple.__eq__» ⟨[.ref b, .ref l], []⟩) (fun _ R z => DictAt z.heap l es n dd sl ∧ RowAt "tuple" z.heap b its m de sm ∧ R (.ok (.ret .notImplemented)) z) := by
  refine .of_wp fun prog w A R ⟨hp, gs, dr, tk, os⟩ h => ?_
  have away := F.sub_dict_tuple
  obtain ⟨at_l, at_b, h⟩ := h
  wp_walk using wpAny_loadPart' at_b, wpAny_loadPart' at_l
  exact ⟨_, rfl, h⟩
/-- a thing against a dict, where both classes wave the other away -/
theorem differs {v : Value} {T id : String} (at_l : DictAt s.heap l es n dd sl) (ty : s.TypeIs v T) (ne : (Value.type T != Value.type "dict") = true) (sub : isSubtype (.type "dict") (.type T) = pure false) (slot : Slot T (cmpInfo .Eq).2.1 id) (room : A.units < cLine)
    (mine : ∀ (prog : Program) (w : World) (E Q : Value → Shared → Prop), Q .notImplemented s → wpAny (model prog w) A (call (.builtin id) [v, .ref l]) Q E s)
    (dicts : ∀ (prog : Program) (w : World) (E Q : Value → Shared → Prop), Q .notImplemented s → wpAny (model prog w) A (call (.builtin "dict.__eq__") [.ref l, v]) Q E s)
    (same : ∀ (prog : Program) (w : World) (E : Value → Shared → Prop) (Q : Bool → Shared → Prop), Q false s → wpAny (model prog w) A (isSame v (.ref l)) Q E s) : RcAt A s v (.ref l) false :=
  fun prog w E Q h => by
    exact rc_eq_decline_or (k := false) ty ⟨_, at_l, rfl⟩ ne sub slot F.slot_dict_eq_refl (mine prog w E) (dicts prog w E) (same prog w E) (.inr room) h
/-- what is no reference is not the dict itself -/
theorem differs_flat {v : Value} (flat : v = .none ∨ (∃ x, v = .bool x) ∨ (∃ x u, v = .int x u) ∨ ∃ x u, v = .str x u) (rc : RcAt A s v (.ref l) false) : EqAt A s v (.ref l) false := fun prog w E Q h => by
  have go : wpAny (model prog w) A (richCompare .Eq v (.ref l)) (fun r z => wpAny (model prog w) A (truthOfDropped r) Q E z) E s := rc prog w E _ (wpAny_truthy_bool h)
  delta eqBool
  rcases flat with rfl | ⟨_, rfl⟩ | ⟨_, _, rfl⟩ | ⟨_, _, rfl⟩ <;> exact wpAny_holding (wpAny_ite_split (fun e => absurd (eq_of_beq e) nofun) fun _ => wpAny_bind go)
theorem IsD.at {h : Heap} (d : IsD h l) : ∃ dd es n sl, DictAt h l es n dd sl := by
  obtain ⟨⟨_, dd, _, sl⟩, es, n, at_l, rfl, rfl⟩ := d
  exact ⟨dd, es, n, sl, at_l⟩
theorem dict_says {v : Value} {x : Shared} (at_l : DictAt s.heap l es n dd sl) {prog : Program} {w : World} {E Q : Value → Shared → Prop} {S : PySem.Spec} (own : Meets (Builtin.«dict.__eq__» ⟨[.ref l, v], []⟩) S) (h : S A (wants Q E) s) :
    wpAny (model prog w) A (call (.builtin "dict.__eq__") [.ref l, v]) Q E s :=
  call_meets F.slot_dict_eq_refl ⟨_, at_l, rfl⟩ F.entry_dict_eq (F.args_dict_eq_2 _ _) own h
theorem eq_NoneType_dict (d : IsD s.heap l) (room : A.units < cLine) : EqAt A s .none (.ref l) false := by
  obtain ⟨dd, es, n, sl, at_l⟩ := d.at
  exact differs_flat (.inl rfl) (differs at_l (T := "NoneType") rfl (by decide) F.sub_dict_NoneType F.slot_NoneType_eq room (fun _ _ _ _ q => call_gives F.slot_NoneType_eq rfl F.entry_NoneType_eq (F.args_NoneType_eq_2 _ _) (NoneType___eq___none_ref_0 l) q)
    (fun _ _ _ _ q => dict_says (x := s) at_l away_none ⟨at_l, q⟩) fun _ _ _ _ q => wpAny_of_eq (rfl : isSame .none (.ref l) = pure false) q)
theorem eq_bool_dict (x : Bool) (d : IsD s.heap l) (room : A.units < cLine) : EqAt A s (.bool x) (.ref l) false := by
  obtain ⟨dd, es, n, sl, at_l⟩ := d.at
  exact differs_flat (.inr (.inl ⟨_, rfl⟩)) (differs at_l (T := "bool") rfl (by decide) F.sub_dict_bool F.slot_bool_eq room (fun _ _ _ _ q => call_meets F.slot_bool_eq rfl F.entry_int_eq (F.args_int_eq_2 _ _) (bool_away x) ⟨at_l, q⟩)
    (fun _ _ _ _ q => dict_says (x := s) at_l (away_bool x) ⟨at_l, q⟩) fun _ _ _ _ q => wpAny_of_eq (rfl : isSame (.bool x) (.ref l) = pure false) q)
theorem eq_int_dict (x : Int) (u : Tok) (d : IsD s.heap l) (room : A.units < cLine) : EqAt A s (.int x u) (.ref l) false := by
  obtain ⟨dd, es, n, sl, at_l⟩ := d.at
  exact differs_flat (.inr (.inr (.inl ⟨_, _, rfl⟩))) (differs at_l (typeIs_int s x u) (by decide) F.sub_dict_int F.slot_int_eq room (fun _ _ _ _ q => call_meets F.slot_int_eq (typeIs_int s x u) F.entry_int_eq (F.args_int_eq_2 _ _) (int_away x u) ⟨at_l, q⟩)
    (fun _ _ _ _ q => dict_says (x := s) at_l (away_int x u) ⟨at_l, q⟩) fun _ _ _ _ q => wpAny_of_eq (rfl : isSame (.int x u) (.ref l) = pure false) q)
theorem eq_str_dict (x : Str) (u : Tok) (d : IsD s.heap l) (room : A.units < cLine) : EqAt A s (.str x u) (.ref l) false := by
  obtain ⟨dd, es, n, sl, at_l⟩ := d.at
  exact differs_flat (.inr (.inr (.inr ⟨_, _, rfl⟩))) (differs at_l (typeIs_str s x u) (by decide) F.sub_dict_str F.slot_str_eq room (fun _ _ _ _ q => call_meets F.slot_str_eq (typeIs_str s x u) F.entry_str_eq (F.args_str_eq_2 _ _) (str_away x u) ⟨at_l, q⟩)
    (fun _ _ _ _ q => dict_says (x := s) at_l (away_str x u) ⟨at_l, q⟩) fun _ _ _ _ q => wpAny_of_eq (rfl : isSame (.str x u) (.ref l) = pure false) q)
/-- a row and a dict don't lie in one place -/
theorem elsewhere {T : String} (t : T ≠ "dict") (at_b : RowAt T s.heap b its m de sm) (at_l : DictAt s.heap l es n dd sl) : b ≠ l := by
  rintro rfl
  have e := at_b.symm.trans at_l
  simp only [Option.some.injEq, Obj.mk.injEq, Value.type.injEq] at e
  exact t e.1
theorem eq_list_dict (p : s.heap.IsList b its) (d : IsD s.heap l) (room : A.units < cLine) : EqAt A s (.ref b) (.ref l) false := by
  obtain ⟨dd, es, n, sl, at_l⟩ := d.at
  obtain ⟨⟨_, de, _, sm⟩, at_b, rfl, m, rfl⟩ := p
  have apart := elsewhere (T := "list") (by decide) at_b at_l
  exact .of_refs apart (differs at_l ⟨_, at_b, rfl⟩ (by decide) F.sub_dict_list F.slot_list_eq room (fun _ _ _ _ q => call_meets F.slot_list_eq ⟨_, at_b, rfl⟩ F.entry_list_eq (F.args_list_eq_2 _ _) list_away ⟨at_l, at_b, q⟩)
    (fun _ _ _ _ q => dict_says (x := s) at_l away_list ⟨at_l, at_b, q⟩) fun _ _ _ _ q => wpAny_isSame_ref_other' apart at_b at_l (by simp) q)
theorem eq_tuple_dict (p : s.heap.IsTuple b its) (d : IsD s.heap l) (room : A.units < cLine) : EqAt A s (.ref b) (.ref l) false := by
  obtain ⟨dd, es, n, sl, at_l⟩ := d.at
  obtain ⟨⟨_, de, _, sm⟩, at_b, rfl, m, rfl⟩ := p
  have apart := elsewhere (T := "tuple") (by decide) at_b at_l
  exact .of_refs apart (differs at_l ⟨_, at_b, rfl⟩ (by decide) F.sub_dict_tuple F.slot_tuple_eq room (fun _ _ _ _ q => call_meets F.slot_tuple_eq ⟨_, at_b, rfl⟩ F.entry_tuple_eq (F.args_tuple_eq_2 _ _) tuple_away ⟨at_l, at_b, q⟩)
    (fun _ _ _ _ q => dict_says (x := s) at_l away_tuple ⟨at_l, at_b, q⟩) fun _ _ _ _ q => wpAny_isSame_ref_other' apart at_b at_l (by simp) q)
end
end DL
set_option Elab.async false
set_option linter.all false
set_option maxRecDepth 100000
set_option maxHeartbeats 4000000
namespace DL
open PySem PySem.Spec PyProof.Rows L2
variable [Tb]
open PySem.SeqAt
/-! ### a plain value == any data; membership of any data; any tuple == () -/
/-! what reads as a list or a tuple: where it stands, its items -/
theorem reads_list {h : Heap} {v : Value} {xs : List PyData} {as : List Addr} (r : Reads h v (.list xs) as) : ∃ a vs bs, v = .ref a ∧ h.IsList a vs ∧ vs.size = xs.length ∧ ReadsAll h vs.toList xs bs := by
  cases r with
  | list at_a cl dt rs => exact ⟨_, _, _, rfl, ⟨_, at_a, cl, _, dt⟩, (Array.length_toList).symm.trans (ReadsAll.length _ _ _ rs), rs⟩
theorem reads_tuple {h : Heap} {v : Value} {xs : List PyData} {as : List Addr} (r : Reads h v (.tuple xs) as) : ∃ a vs bs, v = .ref a ∧ h.IsTuple a vs ∧ vs.size = xs.length ∧ ReadsAll h vs.toList xs bs := by
  cases r with
  | tuple at_a cl dt rs => exact ⟨_, _, _, rfl, ⟨_, at_a, cl, _, dt⟩, (Array.length_toList).symm.trans (ReadsAll.length _ _ _ rs), rs⟩
/-- two things of other kinds, or one of them flat; what the library tells already is left to it -/
theorem eqAt_kinds {A : Around} {s : Shared} {a b : Value} {as bs : List Addr} (da db : PyData) (ra : Reads s.heap a da as) (rb : Reads s.heap b db bs) (lay : da.canLay0 = true) (room : A.units < cLine) (new : ¬ db.canLay0 = true)
    (other : (∀ xs ys, ¬ (da = .list xs ∧ db = .list ys)) ∧ ∀ xs ys, ¬ (da = .tuple xs ∧ db = .tuple ys)) : EqAt A s a b (PyData.eqv da db) := by
  cases rb with
  | none => exact absurd rfl new
  | bool => exact absurd rfl new
  | int => exact absurd rfl new
  | str y u => cases ra with
    | none => exact .none_str y u
    | bool x => exact .bool_str x y u
    | int x t => exact .int_str x t y u
    | str x t => exact .str_str x t y u
    | list h1 h2 h3 => exact .list_str y u ⟨_, h1, h2, _, h3⟩ room
    | tuple h1 h2 h3 => exact .tuple_str y u ⟨_, h1, h2, _, h3⟩ room
    | dict => exact absurd lay Bool.false_ne_true
  | list k1 k2 k3 _ => cases ra with
    | none => exact EqAt.none_list ⟨_, k1, k2, _, k3⟩ room
    | bool x => exact EqAt.bool_list x ⟨_, k1, k2, _, k3⟩ room
    | int x t => exact EqAt.int_list x t ⟨_, k1, k2, _, k3⟩ room
    | str x t => exact EqAt.str_list x t ⟨_, k1, k2, _, k3⟩ room
    | tuple h1 h2 h3 => exact EqAt.tuple_list ⟨_, h1, h2, _, h3⟩ ⟨_, k1, k2, _, k3⟩ room
    | list => exact absurd ⟨rfl, rfl⟩ (other.1 _ _)
    | dict => exact absurd lay Bool.false_ne_true
  | tuple k1 k2 k3 _ => cases ra with
    | none => exact EqAt.none_tuple ⟨_, k1, k2, _, k3⟩ room
    | bool x => exact EqAt.bool_tuple x ⟨_, k1, k2, _, k3⟩ room
    | int x t => exact EqAt.int_tuple x t ⟨_, k1, k2, _, k3⟩ room
    | str x t => exact EqAt.str_tuple x t ⟨_, k1, k2, _, k3⟩ room
    | list h1 h2 h3 => exact EqAt.list_tuple ⟨_, h1, h2, _, h3⟩ ⟨_, k1, k2, _, k3⟩ room
    | tuple => exact absurd ⟨rfl, rfl⟩ (other.2 _ _)
    | dict => exact absurd lay Bool.false_ne_true
  | dict k1 k2 k3 => cases ra with
    | none => exact eq_NoneType_dict ⟨_, _, _, k1, k2, k3⟩ room
    | bool x => exact eq_bool_dict x ⟨_, _, _, k1, k2, k3⟩ room
    | int x t => exact eq_int_dict x t ⟨_, _, _, k1, k2, k3⟩ room
    | str x t => exact eq_str_dict x t ⟨_, _, _, k1, k2, k3⟩ room
    | list h1 h2 h3 => exact eq_list_dict ⟨_, h1, h2, _, h3⟩ ⟨_, _, _, k1, k2, k3⟩ room
    | tuple h1 h2 h3 => exact eq_tuple_dict ⟨_, h1, h2, _, h3⟩ ⟨_, _, _, k1, k2, k3⟩ room
    | dict => exact absurd lay Bool.false_ne_true
/-- the items of two rows, pair by pair -/
def Pairwise2 (A : Around) (s : Shared) (vs us : Array Value) (xs ys : List PyData) : Prop := ∀ j (h1 : j < vs.size) (h2 : j < us.size), EqAt A s vs[j] us[j] (pairEq xs ys j)
theorem eqAt_lists {A : Around} {s : Shared} {l l' : Addr} {vs us : Array Value} {xs ys : List PyData} (apart : l ≠ l') (p : s.heap.IsList l vs) (p' : s.heap.IsList l' us) (n : vs.size = xs.length) (n' : us.size = ys.length) (room : A.units < cLine)
    (each : Pairwise2 A.in1 s vs us xs ys) : EqAt A s (.ref l) (.ref l') (PyData.eqvAll xs ys) := by
  refine EqAt.of_refs apart ?_
  by_cases same : xs.length = ys.length
  · have go := RcAt.lists p p' (n.trans (same.trans n'.symm)) room each
    rwa [n, eqvAll_same_length same] at go
  · rw [eqvAll_other_length same]
    exact RcAt.lists_lengths p p' (by rw [n, n']; simpa using same) room
theorem eqAt_tuples {A : Around} {s : Shared} {l l' : Addr} {vs us : Array Value} {xs ys : List PyData} (apart : l ≠ l') (p : s.heap.IsTuple l vs) (p' : s.heap.IsTuple l' us) (n : vs.size = xs.length) (n' : us.size = ys.length) (room : A.units < cLine)
    (each : Pairwise2 A.in1 s vs us xs ys) : EqAt A s (.ref l) (.ref l') (PyData.eqvAll xs ys) := by
  have go := RcAt.tuples p p' room each
  rw [n, n', eqvAll_eq] at go
  exact EqAt.of_refs apart go
/-- .. and where the library tells all, it tells this -/
theorem eqAt_rest {A : Around} {s : Shared} {a b : Value} {as bs : List Addr} {da db : PyData} (ra : Reads s.heap a da as) (rb : Reads s.heap b db bs) (lay : da.canLay0 = true) (room : A.units + da.depth < cLine)
    (other : (∀ xs ys, ¬ (da = .list xs ∧ db = .list ys)) ∧ ∀ xs ys, ¬ (da = .tuple xs ∧ db = .tuple ys)) : EqAt A s a b (PyData.eqv da db) := by
  by_cases told : db.canLay0 = true
  · exact eqAt_reads da db A s a b as bs ra rb lay told (by omega)
  · exact eqAt_kinds da db ra rb lay (by omega) told other
mutual
theorem eqAt_any : ∀ (da db : PyData) {A : Around} {s : Shared} {a b : Value} {as bs : List Addr}, Reads s.heap a da as → Reads s.heap b db bs → da.canLay0 = true → A.units + da.depth < cLine → EqAt A s a b (PyData.eqv da db)
  | .list xs, db, A, s, a, b, as, bs, ra, rb, lay, room => by
    rcases Classical.em (∃ ys, db = .list ys) with ⟨ys, rfl⟩ | no
    · obtain ⟨l, vs, _, rfl, p, n, rs⟩ := reads_list ra
      obtain ⟨l', us, _, rfl, p', n', rs'⟩ := reads_list rb
      by_cases e : l = l'
      · subst e
        cases Reads.unique (.list xs) (.list ys) _ _ _ lay ra rb
        rw [show PyData.eqv (.list xs) (.list xs) = true from eqvAll_refl xs lay]
        exact EqAt.same _
      · rw [PyData.depth] at room
        exact eqAt_lists e p p' n n' (by omega) fun j h1 h2 => eqAt_anys xs ys rs rs' lay (show A.units + 1 + _ < _ by omega) j h1 h2
    · exact eqAt_rest ra rb lay room ⟨fun _ ys z => no ⟨ys, z.2⟩, fun _ _ z => nomatch z.1⟩
  | .tuple xs, db, A, s, a, b, as, bs, ra, rb, lay, room => by
    rcases Classical.em (∃ ys, db = .tuple ys) with ⟨ys, rfl⟩ | no
    · obtain ⟨l, vs, _, rfl, p, n, rs⟩ := reads_tuple ra
      obtain ⟨l', us, _, rfl, p', n', rs'⟩ := reads_tuple rb
      by_cases e : l = l'
      · subst e
        cases Reads.unique (.tuple xs) (.tuple ys) _ _ _ lay ra rb
        rw [show PyData.eqv (.tuple xs) (.tuple xs) = true from eqvAll_refl xs lay]
        exact EqAt.same _
      · rw [PyData.depth] at room
        exact eqAt_tuples e p p' n n' (by omega) fun j h1 h2 => eqAt_anys xs ys rs rs' lay (show A.units + 1 + _ < _ by omega) j h1 h2
    · exact eqAt_rest ra rb lay room ⟨(fun _ _ z => nomatch z.1), fun _ ys z => no ⟨ys, z.2⟩⟩
  | .none, _, _, _, _, _, _, _, ra, rb, lay, room => eqAt_rest ra rb lay room ⟨(fun _ _ z => nomatch z.1), (fun _ _ z => nomatch z.1)⟩
  | .bool _, _, _, _, _, _, _, _, ra, rb, lay, room => eqAt_rest ra rb lay room ⟨(fun _ _ z => nomatch z.1), (fun _ _ z => nomatch z.1)⟩
  | .int _, _, _, _, _, _, _, _, ra, rb, lay, room => eqAt_rest ra rb lay room ⟨(fun _ _ z => nomatch z.1), (fun _ _ z => nomatch z.1)⟩
  | .str _, _, _, _, _, _, _, _, ra, rb, lay, room => eqAt_rest ra rb lay room ⟨(fun _ _ z => nomatch z.1), (fun _ _ z => nomatch z.1)⟩
  | .dict _, _, _, _, _, _, _, _, _, _, lay, _ => nomatch lay
theorem eqAt_anys : ∀ (xs ys : List PyData) {A : Around} {s : Shared} {vs us : List Value} {as bs : List Addr}, ReadsAll s.heap vs xs as → ReadsAll s.heap us ys bs → PyData.canLayAll0 xs = true → A.units + PyData.depthAll xs < cLine →
    ∀ j (h1 : j < vs.length) (h2 : j < us.length), EqAt A s vs[j] us[j] (pairEq xs ys j)
  | [], _, _, _, _, _, _, _, .nil, _, _, _, _, h1, _ => nomatch h1
  | _ :: _, [], _, _, _, _, _, _, _, .nil, _, _, _, _, h2 => nomatch h2
  | x :: xs, y :: ys, _, _, _, _, _, _, .cons r rs, .cons r' rs', lay, room, j, h1, h2 => by
    rw [PyData.canLayAll0, Bool.and_eq_true] at lay
    rw [PyData.depthAll] at room
    cases j with
    | zero => exact eqAt_any x y r r' lay.1 (by omega)
    | succ j => exact eqAt_anys xs ys rs rs' lay.2 (by omega) j (Nat.lt_of_succ_lt_succ h1) (Nat.lt_of_succ_lt_succ h2)
end
theorem items_any {A : Around} {s : Shared} {vs : Array Value} {xs : List PyData} {as bs : List Addr} {x : Value} {d : PyData} (rs : ReadsAll s.heap vs.toList xs as) (rx : Reads s.heap x d bs) (lay : PyData.canLayAll0 xs = true) (room : A.units + 1 + PyData.depthAll xs < cLine) :
    ∀ y ∈ vs, EqAt A.in1 s y x (PyData.eqv (readOf s.heap y) d) := by
  intro y m
  obtain ⟨d', _, ry, lay', deep⟩ := readsAll_mem xs _ _ lay rs y (Array.mem_toList_iff.mpr m)
  have in1 : A.in1.units = A.units + 1 := rfl
  rw [readOf_eq lay' ry]
  exact eqAt_any d' d ry rx lay' (by omega)
/-- x in y, whatever x is -/
def pInX : P2 := fun x y R => match y with
  | .list ds => SeqAt.shaped (.list ds) = true ∧ R (.bool (ds.any fun z => PyData.eqv z x))
  | .tuple ds => SeqAt.shaped (.tuple ds) = true ∧ R (.bool (ds.any fun z => PyData.eqv z x))
  | _ => False
/-- x == () of a tuple, x == [] of a list, whatever lies within -/
def pEqE : P2 := fun x y R => match x, y with
  | .tuple xs, .tuple [] => R (.bool xs.isEmpty)
  | .list xs, .list [] => R (.bool xs.isEmpty)
  | _, _ => False
def pNeE : P2 := fun x y R => match x, y with
  | .tuple xs, .tuple [] => R (.bool (!xs.isEmpty))
  | .list xs, .list [] => R (.bool (!xs.isEmpty))
  | _, _ => False
omit [Tb] in
@[simp ↓] theorem pEqE_t (xs : List PyData) (R : PyData → Prop) : pEqE (.tuple xs) (.tuple []) R = R (.bool xs.isEmpty) := rfl
omit [Tb] in
@[simp ↓] theorem pEqE_l (xs : List PyData) (R : PyData → Prop) : pEqE (.list xs) (.list []) R = R (.bool xs.isEmpty) := rfl
omit [Tb] in
@[simp ↓] theorem pNeE_t (xs : List PyData) (R : PyData → Prop) : pNeE (.tuple xs) (.tuple []) R = R (.bool (!xs.isEmpty)) := rfl
omit [Tb] in
@[simp ↓] theorem pNeE_l (xs : List PyData) (R : PyData → Prop) : pNeE (.list xs) (.list []) R = R (.bool (!xs.isEmpty)) := rfl
omit [Tb] in
@[simp ↓] theorem pInX_l (x : PyData) (ds : List PyData) (R : PyData → Prop) : pInX x (.list ds) R = (SeqAt.shaped (.list ds) = true ∧ R (.bool (ds.any fun z => PyData.eqv z x))) := rfl
omit [Tb] in
@[simp ↓] theorem pInX_t (x : PyData) (ds : List PyData) (R : PyData → Prop) : pInX x (.tuple ds) R = (SeqAt.shaped (.tuple ds) = true ∧ R (.bool (ds.any fun z => PyData.eqv z x))) := rfl
section
variable {X : Cx}
theorem depth_shaped {xs : List PyData} (h : SeqAt.shaped (.tuple xs) = true) : PyData.depthAll xs ≤ 63 := by
  have le := (Bool.and_eq_true _ _ ▸ h : _ ∧ _).2
  have le := of_decide_eq_true le
  rw [PyData.depth] at le
  omega
theorem depth_shapedL {xs : List PyData} (h : SeqAt.shaped (.list xs) = true) : PyData.depthAll xs ≤ 63 := by
  have le := (Bool.and_eq_true _ _ ▸ h : _ ∧ _).2
  have le := of_decide_eq_true le
  rw [PyData.depth] at le
  omega
theorem d_inX (hu : X.A.units + 65 < cLine) : OpD X (compareOp .In) pInX := by
  rintro pins s σ H x y v u Q I rx ry ⟨B, G, δ, σ', dx, dy, R, rel, bx, by', q, k⟩
  obtain ⟨_, r1⟩ := (Dn.rdN I dx (bx.dn rel) rx).reads
  obtain ⟨_, r2⟩ := (Dn.rdN I dy (by'.dn rel) ry).reads
  have fin : ∀ {b : Bool}, R (.bool b) → EP X pins σ Q (.bool b) s := fun {b} r => ⟨.bl b, H, I, rfl, k _ H G _ r (Same.refl _) rel (Dn.bl _)⟩
  cases dy with
  | list ds =>
    have lay : PyData.canLayAll0 ds = true := SeqAt.canLay_of_shaped q.1
    have deep := depth_shapedL q.1
    obtain ⟨l, vs, _, rfl, p, _, rs⟩ := reads_list r2
    exact in_listAt _ p (items_any rs r1 lay (by omega)) (by rw [any_by_data rs lay]; exact fin q.2)
  | tuple ds =>
    have lay : PyData.canLayAll0 ds = true := SeqAt.canLay_of_shaped q.1
    have deep := depth_shaped q.1
    obtain ⟨l, vs, _, rfl, p, _, rs⟩ := reads_tuple r2
    exact in_tupleAt _ p (items_any rs r1 lay (by omega)) (by rw [any_by_data rs lay]; exact fin q.2)
  | _ => exact False.elim q
theorem empty_by {vs us : Array Value} {xs : List PyData} (n : vs.size = xs.length) (n' : us.size = 0) : ((List.range (min vs.size us.size)).all (fun _ => true) && vs.size == us.size) = xs.isEmpty := by
  rw [n', n]; cases xs <;> simp
theorem empty_len {vs us : Array Value} {xs : List PyData} (n : vs.size = xs.length) (n' : us.size = 0) : (vs.size = us.size ∧ xs.isEmpty = true) ∨ ((vs.size != us.size) = true ∧ xs.isEmpty = false) := by
  rw [n', n]; cases xs <;> simp
theorem d_eqE (hu : X.A.units + 64 < cLine) : OpD X (compareOp .Eq) pEqE := by
  rintro pins s σ H x y v u Q I rx ry ⟨B, G, δ, σ', dx, dy, R, rel, bx, by', q, k⟩
  obtain ⟨_, r1⟩ := (Dn.rdN I dx (bx.dn rel) rx).reads
  obtain ⟨_, r2⟩ := (Dn.rdN I dy (by'.dn rel) ry).reads
  have fin : ∀ {b : Bool}, R (.bool b) → EP X pins σ Q (.bool b) s := fun {b} r => ⟨.bl b, H, I, rfl, k _ H G _ r (Same.refl _) rel (Dn.bl _)⟩
  match dx, dy, q with
  | .tuple xs, .tuple [], q =>
    obtain ⟨l, vs, _, rfl, p, n, _⟩ := reads_tuple r1
    obtain ⟨l', us, _, rfl, p', n', _⟩ := reads_tuple r2
    have go := RcAt.tuples (A := X.A) (e := fun _ => true) p p' (by omega) fun j _ j2 => absurd j2 (by rw [n']; exact Nat.not_lt_zero j)
    rw [empty_by n n'] at go
    exact go X.prog X.w X.xe _ (fin q)
  | .list xs, .list [], q =>
    have q : R (.bool xs.isEmpty) := q
    obtain ⟨l, vs, _, rfl, p, n, _⟩ := reads_list r1
    obtain ⟨l', us, _, rfl, p', n', _⟩ := reads_list r2
    rcases empty_len n n' with ⟨same, e⟩ | ⟨other, e⟩ <;> rw [e] at q
    · have go := RcAt.lists (A := X.A) (e := fun _ => true) p p' same (by omega) fun j _ j2 => absurd j2 (by rw [n']; exact Nat.not_lt_zero j)
      rw [same, n'] at go
      exact go X.prog X.w X.xe _ (fin q)
    · exact RcAt.lists_lengths p p' other (by omega) X.prog X.w X.xe _ (fin q)
theorem d_neE (hu : X.A.units + 64 < cLine) : OpD X (compareOp .NotEq) pNeE := by
  rintro pins s σ H x y v u Q I rx ry ⟨B, G, δ, σ', dx, dy, R, rel, bx, by', q, k⟩
  obtain ⟨_, r1⟩ := (Dn.rdN I dx (bx.dn rel) rx).reads
  obtain ⟨_, r2⟩ := (Dn.rdN I dy (by'.dn rel) ry).reads
  have fin : ∀ {b : Bool}, R (.bool b) → EP X pins σ Q (.bool b) s := fun {b} r => ⟨.bl b, H, I, rfl, k _ H G _ r (Same.refl _) rel (Dn.bl _)⟩
  match dx, dy, q with
  | .tuple xs, .tuple [], q =>
    obtain ⟨l, vs, _, rfl, p, n, _⟩ := reads_tuple r1
    obtain ⟨l', us, _, rfl, p', n', _⟩ := reads_tuple r2
    have go := RcNeAt.tuples (A := X.A) (e := fun _ => true) p p' (by omega) fun j _ j2 => absurd j2 (by rw [n']; exact Nat.not_lt_zero j)
    rw [empty_by n n'] at go
    exact go X.prog X.w X.xe _ (fin q)
  | .list xs, .list [], q =>
    have q : R (.bool (!xs.isEmpty)) := q
    obtain ⟨l, vs, _, rfl, p, n, _⟩ := reads_list r1
    obtain ⟨l', us, _, rfl, p', n', _⟩ := reads_list r2
    rcases empty_len n n' with ⟨same, e⟩ | ⟨other, e⟩ <;> rw [e] at q
    · have go := RcNeAt.lists (A := X.A) (e := fun _ => true) p p' same (by omega) fun j _ j2 => absurd j2 (by rw [n']; exact Nat.not_lt_zero j)
      rw [same, n'] at go
      exact go X.prog X.w X.xe _ (fin q)
    · exact RcNeAt.lists_lengths p p' other (by omega) X.prog X.w X.xe _ (fin q)
end
end DL
set_option Elab.async false
set_option linter.all false
set_option maxRecDepth 100000
set_option maxHeartbeats 4000000
namespace DL
open PySem PySem.Spec PyProof.Rows L2
variable [Tb]
/-! ### texts: s.upper() -/
def stC (x : PyData) (k : Str → Prop) : Prop := match x with
  | .str z => k z
  | _ => False
omit [Tb] in
@[simp ↓] theorem stC_s (z : Str) (k : Str → Prop) : stC (.str z) k = k z := rfl
theorem stC_inv {x : PyData} {k : Str → Prop} (h : stC x k) : ∃ z, x = .str z ∧ k z := by
  cases x with
  | str z => exact ⟨z, rfl, h⟩
  | _ => exact h.elim
def wUpper (w : DE) : DE := fun δ R => w δ fun o δ1 => use o δ1 fun x => stC x fun z => z.length ≤ 1000000 ∧ R (.d (.str (Txt.upper z))) δ1
omit [Tb] in
@[simp ↓] theorem wUpper_ap (w : DE) (δ : DS) (R : Opd → DS → Prop) : wUpper w δ R = (w δ fun o δ1 => use o δ1 fun x => stC x fun z => z.length ≤ 1000000 ∧ R (.d (.str (Txt.upper z))) δ1) := rfl
section
variable {X : Cx}
theorem je_upper {o : Expr} {w : DE} {apos cpos : Pos} (ho : JE X o w) (hbase : attributeBase o "upper" X.env (eval o X.env) = eval o X.env := by rfl) (hline : (apos.endLine == cpos.line) = true := by rfl) :
    JE X (.Call (.Attribute o "upper" apos) [] [] cpos) (wUpper w) :=
  pe_le (pe_upper ho hbase hline) fun pins s σ H Q I ⟨B, G, δ, R, rel, hw, k⟩ => ⟨B, G, δ, _, rel, hw, fun v H1 G1 o1 δ1 r1 s1 rel1 ok1 => by
    obtain ⟨x, q, b⟩ := use_ok rel1 ok1 r1
    obtain ⟨z, rfl, q1, q2⟩ := stC_inv q
    obtain rfl := bor_str b
    exact ⟨⟨z, rfl⟩, z, rfl, rfl, by omega, k _ H1 G1 _ _ q2 s1 rel1 (Dn.str _)⟩⟩
end
end DL
set_option Elab.async false
set_option linter.all false
set_option maxRecDepth 100000
set_option maxHeartbeats 4000000
namespace DL
open PySem PySem.Spec PyProof.Rows L2
variable [Tb]
/-! ### t[:0:-1] of a tuple that isn't empty -/
section
variable {X : Cx}
/-- x[:0:-1] of a tuple -/
def rev0D (x : PyData) (k : PyData → Prop) : Prop := match x with
  | .tuple ds => 1 ≤ ds.length ∧ k (.tuple (ds.drop 1).reverse)
  | _ => False
omit [Tb] in
@[simp ↓] theorem rev0D_t (ds : List PyData) (k : PyData → Prop) : rev0D (.tuple ds) k = (1 ≤ ds.length ∧ k (.tuple (ds.drop 1).reverse)) := rfl
def wRev0 (w : DE) : DE := fun δ R => w δ fun o δ1 => use o δ1 fun x => rev0D x fun z => R (.d z) δ1
omit [Tb] in
@[simp ↓] theorem wRev0_ap (w : DE) (δ : DS) (R : Opd → DS → Prop) : wRev0 w δ R = (w δ fun o δ1 => use o δ1 fun x => rev0D x fun z => R (.d z) δ1) := rfl
theorem je_rev0 {e : Expr} {w : DE} {p1 p2 p3 p4 pos : Pos} {k1 k2} (h : JE X e w) : JE X (.Subscript e (.Slice none (some (.Constant (.int 0) k2 p4)) (some (.UnaryOp .USub (.Constant (.int 1) k1 p1) p2)) p3) pos) (wRev0 w) :=
  pe_le (pe_back (Nat.le_refl 1) h (po_some (pe_int (i := 0))) fun _ _ _ q => ⟨0, rfl, q⟩) fun pins s σ H Q I ⟨B, G, δ, R, rel, hw, k⟩ => ⟨B, G, δ, _, rel, hw, fun v H1 G1 o δ1 r1 s1 rel1 ok1 => by
    obtain ⟨d, q, bd⟩ := use_ok rel1 ok1 r1
    cases d with
    | tuple ds =>
      obtain ⟨a, ws, rfl, ha, ta⟩ := bor_tup bd
      obtain ⟨q1, q⟩ := q
      refine ⟨a, ws, rfl, .inr ⟨sqT_mono rel1.sg ha, by rw [ta.len]; exact q1, fun p np => ?_⟩⟩
      obtain ⟨rel3, s3⟩ := rel1.laid (o := .tup (ws.drop 1).reverse) np
      exact k _ _ _ _ _ q (s1.trans s3) rel3 (Dn.tup upd_same ((ta.drop 1).rev.mono s3))
    | _ => exact False.elim q⟩
end
/-! ### a, b = a list -/
def gTL (r : DTGs) : DTG := fun x δ R => match x with
  | .list xs => r xs δ R
  | _ => False
omit [Tb] in
@[simp ↓] theorem gTL_l (r : DTGs) (xs : List PyData) (δ : DS) (R : DS → Prop) : gTL r (.list xs) δ R = r xs δ R := rfl
section
variable {X : Cx} {pos : Pos}
theorem jg_lst {es : List Expr} {kk : Nat} {ts : List Nat} {r : DTGs} {n : Nat} (hc : X.calm = true) (h : JGs X es ts r) (hr : ∀ xs δ R, r xs δ R → xs.length = n)
    (hn : (assignEach es X.env).length = n := by rfl) (hst : (assignEach es X.env).findIdx? (·.1) = none := by rfl) : JG X (.Tuple es kk pos) ts (gTL r) :=
  pg_le (pg_lst hc h hn hst) fun pins s v σ H Q I ⟨B, G, δ, d, R, rel, dn, hw, k⟩ => by
    cases dn with
    | lst hs ht => exact ⟨_, _, rfl, SqL.of (rel.sg _ _ hs), by rw [ht.len]; exact hr _ _ _ hw, B, G, δ, _, R, rel, ht, hw, k⟩
    | _ => exact hw.elim
end
/-! ### x[i], of a list of one's own, as a target among others -/
def gSV (i j : Nat) : DTG := fun y δ R => ∃ a xs k n, δ[i]? = some (.ol a xs) ∧ δ[j]? = some (.d (.int k)) ∧ ixN xs.length k = some n ∧ R (δ.set i (.ol a (xs.set n y)))
section
variable {X : Cx}
theorem jg_sub {i j : Nat} {x y : Str} {px py apos : Pos} (hb : PG X (.Subscript (.Name x px) (.Name y py) apos) (gSub (tVar i) (tVar j) rSetL)) : JG X (.Subscript (.Name x px) (.Name y py) apos) [] (gSV i j) :=
  pg_le hb fun pins s v σ H Q I ⟨B, G, δ, d, R, rel, dn, ⟨a, xs, k, n, e1, e2, hn, hw⟩, kk⟩ => by
    obtain ⟨o1, h1, rfl, us, hu, t⟩ := rel.at e1
    obtain ⟨o2, h2, u, rfl, dk⟩ := rel.at e2
    cases dk
    refine ⟨.ref a, h1, .int k, h2, a, us, k, n, rfl, rfl, hu, by rw [t.len]; exact hn, ?_⟩
    exact kk _ _ G _ hw (Same.refl _) (rel.write e1 (DnL.set dn n t)) (Only.refl _ _)
end
theorem gs_lenS {i j : Nat} {r : DTGs} {n : Nat} (h : ∀ xs δ R, r xs δ R → xs.length = n) : ∀ xs δ R, gsCons (gSV i j) r xs δ R → xs.length = n + 1 := fun xs δ R q => by
  cases xs with
  | nil => exact q.elim
  | cons x xs =>
    obtain ⟨_, _, _, _, _, _, _, q⟩ := q
    rw [List.length_cons, h xs _ R q]
end DL
set_option Elab.async false
set_option linter.all false
set_option maxRecDepth 100000
set_option maxHeartbeats 4000000
namespace DL
open PySem PySem.Spec PyProof.Rows L2
variable [Tb]
/-! ### texts: sep.join(texts), where sep is written out -/
def strsC (x : PyData) (k : List Str → Prop) (_u : Stop k) : Prop := ∃ ys : List Str, x = .list (ys.map PyData.str) ∧ k ys
theorem strs_one {a b : List Str} (h : a.map PyData.str = b.map PyData.str) : a = b :=
  List.map_inj_right (f := PyData.str) (fun _ _ e => PyData.str.inj e) |>.mp h
omit [Tb] in
@[simp ↓] theorem strsC_l (ys : List Str) (k : List Str → Prop) (u : Stop k) : strsC (.list (ys.map PyData.str)) k u = k ys :=
  propext ⟨fun ⟨_, e, h⟩ => strs_one (PyData.list.inj e) ▸ h, fun h => ⟨ys, rfl, h⟩⟩
def wJoinC (a : Str) (w : DE) : DE := fun δ R => w δ fun o δ1 => use o δ1 fun x => strsC x (fun ys => (ys.map (·.length)).sum + ys.length * a.length ≤ 1000000 ∧ R (.d (.str (Txt.join a ys))) δ1) .mk
omit [Tb] in
@[simp ↓] theorem wJoinC_ap (a : Str) (w : DE) (δ : DS) (R : Opd → DS → Prop) : wJoinC a w δ R = (w δ fun o δ1 => use o δ1 fun x => strsC x (fun ys => (ys.map (·.length)).sum + ys.length * a.length ≤ 1000000 ∧ R (.d (.str (Txt.join a ys))) δ1) .mk) := rfl
section
variable {X : Cx}
theorem je_joinC {a : Str} {e : Expr} {w : DE} {kc : Nat} {pc apos cpos : Pos} (he : JE X e w) (hs : starEach [e] X.env = [(false, eval e X.env)] := by rfl)
    (hbase : attributeBase (.Constant (.str a) kc pc) "join" X.env (eval (.Constant (.str a) kc pc) X.env) = eval (.Constant (.str a) kc pc) X.env := by rfl) (hline : (apos.endLine == cpos.line) = true := by rfl) :
    JE X (.Call (.Attribute (.Constant (.str a) kc pc) "join" apos) [e] [] cpos) (wJoinC a w) :=
  pe_le (pe_join pe_str he hs hbase hline) fun pins s σ H Q I ⟨B, G, δ, R, rel, hw, k⟩ => ⟨⟨a, rfl⟩, B, G, δ, _, rel, hw, fun v H1 G1 o δ1 r1 s1 rel1 ok1 => by
    obtain ⟨x, ⟨ys, rfl, few, q⟩, b⟩ := use_ok rel1 ok1 r1
    obtain ⟨p, vs, rfl, hp, t⟩ := bor_lst rel1 b
    obtain rfl := t.toStrs
    exact ⟨a, p, ys, rfl, rfl, .inl (SqL.of hp), by omega, k _ H1 G1 _ _ q s1 rel1 (Dn.str _)⟩⟩
end
end DL
set_option Elab.async false
set_option linter.all false
set_option maxRecDepth 100000
set_option maxHeartbeats 4000000
namespace DL
open PySem PySem.Spec PyProof.Rows L2
variable [Tb]
/-! ### texts: s.split(sep), where sep is written out and not empty -/
def wSplitC (b : Str) (w : DE) : DE := fun δ R => w δ fun o δ1 => use o δ1 fun x => stC x fun z => z.length ≤ 1000000 ∧ R (.d (.list ((Txt.split z b).map PyData.str))) δ1
omit [Tb] in
@[simp ↓] theorem wSplitC_ap (b : Str) (w : DE) (δ : DS) (R : Opd → DS → Prop) : wSplitC b w δ R = (w δ fun o δ1 => use o δ1 fun x => stC x fun z => z.length ≤ 1000000 ∧ R (.d (.list ((Txt.split z b).map PyData.str))) δ1) := rfl
theorem DnL.ofStrs {K : PySem.W.Frag} {G : Hp} : ∀ ys : List Str, DnL K G (ys.map V.str) (ys.map PyData.str)
  | [] => .nil
  | y :: ys => .cons (Dn.str y) (DnL.ofStrs ys)
section
variable {X : Cx}
theorem je_splitC {b : Str} {o : Expr} {w : DE} {kc : Nat} {pc apos cpos : Pos} (hb : (b.length == 0) = false) (ho : JE X o w) (hs : starEach [.Constant (.str b) kc pc] X.env = [(false, eval (.Constant (.str b) kc pc) X.env)] := by rfl)
    (hbase : attributeBase o "split" X.env (eval o X.env) = eval o X.env := by rfl) (hline : (apos.endLine == cpos.line) = true := by rfl) :
    JE X (.Call (.Attribute o "split" apos) [.Constant (.str b) kc pc] [] cpos) (wSplitC b w) :=
  pe_le (pe_split ho pe_str hs hbase hline) fun pins s σ H Q I ⟨B, G, δ, R, rel, hw, k⟩ => ⟨B, G, δ, _, rel, hw, fun v H1 G1 o1 δ1 r1 s1 rel1 ok1 => by
    obtain ⟨x, q, bx⟩ := use_ok rel1 ok1 r1
    obtain ⟨z, rfl, few, q⟩ := stC_inv q
    obtain rfl := bor_str bx
    refine ⟨⟨z, rfl⟩, z, b, rfl, rfl, hb, by rw [sizeLine_eq]; omega, fun p np => ?_⟩
    obtain ⟨rel3, s3⟩ := rel1.laid (o := .lst ((Txt.split z b).map V.str)) np
    exact k _ _ _ (.d (.list ((Txt.split z b).map PyData.str))) _ q (s1.trans s3) rel3 (Dn.lst upd_same (DnL.ofStrs _))⟩
end
end DL
set_option Elab.async false
set_option linter.all false
set_option maxRecDepth 100000
set_option maxHeartbeats 4000000
namespace DL
open PySem PySem.Spec PyProof.Rows L2
variable [Tb]
/-! ### a walk over the signs of a text -/
def signs (z : Str) : List PyData := z.cps.toList.map fun c => .str ⟨#[c]⟩
def iStrD (w : DE) : DL := fun δ R => w δ fun o δ1 => use o δ1 fun x => stC x fun z => z.length ≤ 1000000 ∧ R (signs z) δ1
omit [Tb] in
@[simp ↓] theorem iStrD_ap (w : DE) (δ : DS) (R : List PyData → DS → Prop) : iStrD w δ R = (w δ fun o δ1 => use o δ1 fun x => stC x fun z => z.length ≤ 1000000 ∧ R (signs z) δ1) := rfl
theorem walk_of_str {K : PySem.W.Frag} {G : Hp} {z : Str} : WalkD K (Its z) G (signs z) := fun B G2 δ σ H s rel => by
  have hl : (signs z).length = z.cps.size := by simp [signs]
  refine ⟨fun i hi => show i < z.cps.size by omega, show z.cps.size ≤ (signs z).length from Nat.le_of_eq hl.symm, fun i x d H' hd y => ?_⟩
  obtain ⟨rfl, c, hc, rfl⟩ := y
  have e : (signs z)[i]? = some (.str ⟨#[c]⟩) := by simp [signs, hc]
  rw [e] at hd
  cases hd
  exact ⟨G2, Same.refl _, rel, Dn.str _⟩
section
variable {X : Cx} {tg : Expr}
theorem ji_str {l : Expr} {w : DE} (h : JE X l w) : JI X tg l (iStrD w) := pi_le (pi_str h) fun pins s σ H R I ⟨B, G, δ, R', rel, hw, k⟩ => ⟨B, G, δ, _, rel, hw, fun v H1 G1 o δ1 r1 s1 rel1 ok1 => by
  obtain ⟨x, q, bx⟩ := use_ok rel1 ok1 r1
  obtain ⟨z, rfl, few, q⟩ := stC_inv q
  obtain rfl := bor_str bx
  exact ⟨z, rfl, k _ H1 G1 _ δ1 q s1 rel1 walk_of_str (by rw [sizeLine_eq]; simp [signs]; exact Nat.le_trans few (by decide))⟩⟩
end
end DL
set_option Elab.async false
set_option linter.all false
set_option maxRecDepth 100000
set_option maxHeartbeats 4000000
namespace TW
open PySem PySem.Spec PyProof.Rows L2 DL

/-! ### great bounds -/
def BIG : Int := 2 ^ 4000
theorem BIG_nat : BIG.natAbs = 2 ^ 4000 := by decide +kernel
theorem BIG_ge : 10 ^ 60 ≤ BIG := by decide +kernel
theorem log_big {i : Int} (h : i.natAbs ≤ BIG.natAbs) : i.natAbs.log2 ≤ 4000 := by
  rw [BIG_nat] at h
  by_cases h0 : i.natAbs = 0
  · rw [h0]; decide
  · have : i.natAbs.log2 < 4001 := (Nat.log2_lt h0).mpr (Nat.lt_of_le_of_lt h (Nat.pow_lt_pow_right (by decide) (by decide)))
    omega
theorem abs_big {i : Int} (h0 : -BIG ≤ i) (h1 : i ≤ BIG) : i.natAbs ≤ BIG.natAbs := by
  have := BIG_ge
  omega
theorem mul_big {i j : Int} (h0 : -BIG ≤ i) (h1 : i ≤ BIG) (h2 : -BIG ≤ j) (h3 : j ≤ BIG) : CMul i j ∨ CMulW i j := by
  refine .inr ?_
  have a := log_big (abs_big h0 h1)
  have b := log_big (abs_big h2 h3)
  unfold CMulW
  omega
theorem div_big {j : Int} (h0 : 0 < j) (h1 : j ≤ BIG) : 0 < j ∧ j.natAbs.log2 < 9000 := by
  have b := log_big (abs_big (i := j) (by omega) h1)
  exact ⟨h0, by omega⟩
/-- a side, a number of any use -/
def Pos (x : Int) : Prop := 1 ≤ x ∧ x ≤ BIG
theorem Pos.div {j : Int} (h : Pos j) : 0 < j ∧ j.natAbs.log2 < 9000 := div_big (by have := h.1; omega) h.2
theorem Pos.of {x : Int} (h : 1 ≤ x) (h1 : x ≤ 10 ^ 60) : Pos x := ⟨h, by have := BIG_ge; omega⟩

/-! ### divisors, sums -/
def gcdI (a b : Int) : Int := (Int.gcd a b : Nat)
theorem gcd_step {x y : Int} : gcdI y (x % y) = gcdI x y := by
  unfold gcdI
  congr 1
  rw [Int.gcd_comm x y]
  have : x % y = x - y * (x / y) := by have := Int.mul_ediv_add_emod x y; omega
  rw [this, Int.gcd_comm, Int.mul_comm, Int.gcd_sub_mul_right_left, Int.gcd_comm]
theorem gcd_le {a b : Int} (ha : 1 ≤ a) : 1 ≤ gcdI a b ∧ gcdI a b ≤ a := by
  have h1 : (Int.gcd a b : Int) ∣ a := Int.gcd_dvd_left ..
  have h0 : 0 < Int.gcd a b := Int.gcd_pos_of_ne_zero_left _ (by omega)
  have := Int.le_of_dvd (by omega) h1
  unfold gcdI
  omega
theorem gcd_dvd_l (a b : Int) : gcdI a b ∣ a := Int.gcd_dvd_left ..
theorem gcd_dvd_r (a b : Int) : gcdI a b ∣ b := Int.gcd_dvd_right ..
theorem gcdI_comm (a b : Int) : gcdI a b = gcdI b a := by unfold gcdI; rw [Int.gcd_comm]
theorem dvd_gcdI {c a b : Int} (h : c ∣ a) (h' : c ∣ b) : c ∣ gcdI a b := Int.dvd_coe_gcd h h'
def invGo : Nat → Int → Int → Int → Int → Int
  | 0, _, _, _, later => later
  | f + 1, left, right, now, later => if left > 0 then invGo f (right - right / left * left) left (later - right / left * now) now else later
def invF (a b : Int) : Int := invGo (a % b).toNat.succ (a % b) b 1 0 % b
theorem sub_div (r l : Int) : r - r / l * l = r % l := by have := Int.mul_ediv_add_emod r l; rw [Int.mul_comm l] at this; omega
theorem inv_go {a b : Int} : ∀ (f : Nat) (l r n t : Int), 0 ≤ l → 0 ≤ r → l.toNat < f → b ∣ l - n * a → b ∣ r - t * a → gcdI l r = 1 → b ∣ 1 - invGo f l r n t * a
  | 0, l, r, n, t, _, _, h, _, _, _ => by omega
  | f + 1, l, r, n, t, h0, h1, hf, d1, d2, hg => by
    unfold invGo
    split
    · rename_i hl
      refine inv_go f _ _ _ _ ?_ h0 ?_ ?_ d1 ?_
      · rw [sub_div]; exact Int.emod_nonneg _ (by omega)
      · rw [sub_div]
        have := Int.emod_lt_of_pos r hl
        have := Int.emod_nonneg r (show l ≠ 0 by omega)
        omega
      · have e : r - r / l * l - (t - r / l * n) * a = (r - t * a) - r / l * (l - n * a) := by
          generalize r / l = q
          rw [Int.sub_mul, Int.mul_sub, Int.mul_assoc]; omega
        rw [e]
        exact Int.dvd_sub d2 (Int.dvd_mul_of_dvd_right d1)
      · rw [sub_div, gcdI_comm, gcd_step, gcdI_comm, hg]
    · rename_i hl
      have : l = 0 := by omega
      subst this
      have : r = 1 := by unfold gcdI at hg; simp at hg; omega
      subst this
      exact d2
theorem inv_ok {a b : Int} (hb : 1 ≤ b) (hg : gcdI a b = 1) : 0 ≤ invF a b ∧ invF a b < b ∧ b ∣ 1 - invF a b * a := by
  unfold invF
  refine ⟨Int.emod_nonneg _ (by omega), Int.emod_lt_of_pos _ (by omega), ?_⟩
  have h0 : 0 ≤ a % b := Int.emod_nonneg _ (by omega)
  have h := inv_go (a := a) (b := b) (a % b).toNat.succ (a % b) b 1 0 h0 (by omega) (by omega) ?_ ?_ ?_
  · generalize invGo _ _ _ _ _ = v at h
    have e : 1 - v % b * a = (1 - v * a) + b * (v / b * a) := by
      have := Int.mul_ediv_add_emod v b
      have e2 : v * a = (b * (v / b) + v % b) * a := by rw [this]
      rw [Int.add_mul, Int.mul_assoc] at e2
      omega
    rw [e]
    exact Int.dvd_add h (Int.dvd_mul_right ..)
  · rw [Int.one_mul]
    have : a % b - a = b * (-(a / b)) := by
      have := Int.mul_ediv_add_emod a b
      rw [Int.mul_neg]; omega
    rw [this]; exact Int.dvd_mul_right ..
  · simp
  · rw [gcdI_comm, gcd_step, hg]
def timesF (a b s : Int) : Option Int := if s % gcdI a b ≠ 0 then none else some (s / gcdI a b * invF (a / gcdI a b) (b / gcdI a b) % (b / gcdI a b))
theorem gcd_parts {a b : Int} (ha : 1 ≤ a) : gcdI (a / gcdI a b) (b / gcdI a b) = 1 := by
  have := gcd_le (b := b) ha
  unfold gcdI at this ⊢
  have h := Int.gcd_ediv_gcd_ediv_gcd (i := a) (j := b) (by omega)
  omega
theorem mul_cancel_dvd {g x y : Int} (hg : g ≠ 0) (h : g * x ∣ g * y) : x ∣ y := by
  obtain ⟨k, hk⟩ := h
  exact ⟨k, Int.eq_of_mul_eq_mul_left hg (by rw [hk, Int.mul_assoc])⟩
theorem dvd_of_coprime {a b c : Int} (hb : 1 ≤ b) (hg : gcdI a b = 1) (h : b ∣ a * c) : b ∣ c := by
  obtain ⟨_, _, d⟩ := inv_ok hb hg
  have e : c = (1 - invF a b * a) * c + invF a b * (a * c) := by
    rw [Int.sub_mul, Int.one_mul, Int.mul_assoc]; omega
  rw [e]
  exact Int.dvd_add (Int.dvd_mul_of_dvd_left d) (Int.dvd_mul_of_dvd_right h)
theorem times_none {a b s : Int} : timesF a b s = none ↔ ¬ gcdI a b ∣ s := by
  unfold timesF
  rw [Int.dvd_iff_emod_eq_zero]
  by_cases h : s % gcdI a b = 0 <;> simp [h]
/-- what is told as the least number of times -/
theorem times_some {a b s t : Int} (ha : 1 ≤ a) (hb : 1 ≤ b) (h : timesF a b s = some t) : gcdI a b ∣ s ∧ 0 ≤ t ∧ t < b / gcdI a b ∧ b ∣ s - a * t := by
  unfold timesF at h
  split at h
  · cases h
  rename_i hs
  have hs : gcdI a b ∣ s := Int.dvd_of_emod_eq_zero (by simpa using hs)
  have h := Option.some.inj h
  obtain ⟨g0, g1⟩ := gcd_le (b := b) ha
  have gp := gcd_parts (b := b) ha
  obtain ⟨a', ea⟩ := gcd_dvd_l a b
  obtain ⟨b', eb⟩ := gcd_dvd_r a b
  obtain ⟨s', es⟩ := hs
  generalize gcdI a b = g at *
  have qa : a / g = a' := by rw [ea]; exact Int.mul_ediv_cancel_left _ (by omega)
  have qb : b / g = b' := by rw [eb]; exact Int.mul_ediv_cancel_left _ (by omega)
  have qs : s / g = s' := by rw [es]; exact Int.mul_ediv_cancel_left _ (by omega)
  rw [qa, qb] at gp
  rw [qa, qb, qs] at h
  have hb' : 1 ≤ b' := by
    have : 0 < b' := Int.pos_of_mul_pos_right (a := g) (b := b') (by rw [← eb]; omega) (by omega)
    omega
  obtain ⟨i0, i1, di⟩ := inv_ok hb' gp
  rw [qb]
  refine ⟨⟨s', es⟩, by rw [← h]; exact Int.emod_nonneg _ (by omega), by rw [← h]; exact Int.emod_lt_of_pos _ (by omega), ?_⟩
  rw [ea, eb, es, ← h]
  have e : g * s' - g * a' * (s' * invF a' b' % b') = g * ((1 - invF a' b' * a') * s' + b' * (a' * (s' * invF a' b' / b'))) := by
    have := Int.mul_ediv_add_emod (s' * invF a' b') b'
    generalize s' * invF a' b' / b' = q at *
    generalize s' * invF a' b' % b' = r at *
    have : r = s' * invF a' b' - b' * q := by omega
    rw [this]
    generalize invF a' b' = v
    simp only [Int.mul_sub, Int.mul_add, Int.sub_mul, Int.one_mul, Int.mul_assoc]
    have x1 : g * (a' * (s' * v)) = g * (v * (a' * s')) := by
      rw [Int.mul_comm s' v, Int.mul_left_comm a' v s']
    have x2 : g * (a' * (b' * q)) = g * (b' * (a' * q)) := by rw [Int.mul_left_comm a' b' q]
    omega
  rw [e]
  exact Int.mul_dvd_mul_left g (Int.dvd_add (Int.dvd_mul_of_dvd_left di) (Int.dvd_mul_right ..))
/-- .. and that is the least one -/
theorem times_least {a b s t x : Int} (ha : 1 ≤ a) (hb : 1 ≤ b) (h : timesF a b s = some t) (h0 : 0 ≤ x) (hx : b ∣ s - a * x) : t ≤ x ∧ (b / gcdI a b) ∣ x - t := by
  obtain ⟨hs, t0, t1, dt⟩ := times_some ha hb h
  obtain ⟨g0, g1⟩ := gcd_le (b := b) ha
  have gp := gcd_parts (b := b) ha
  obtain ⟨a', ea⟩ := gcd_dvd_l a b
  obtain ⟨b', eb⟩ := gcd_dvd_r a b
  generalize gcdI a b = g at *
  have qa : a / g = a' := by rw [ea]; exact Int.mul_ediv_cancel_left _ (by omega)
  have qb : b / g = b' := by rw [eb]; exact Int.mul_ediv_cancel_left _ (by omega)
  rw [qa, qb] at gp
  rw [qb] at t1 ⊢
  have hb' : 1 ≤ b' := by omega
  have d : b ∣ a * (x - t) := by
    have := Int.dvd_sub dt hx
    have e : s - a * t - (s - a * x) = a * (x - t) := by rw [Int.mul_sub]; omega
    rwa [e] at this
  rw [ea, eb, Int.mul_assoc] at d
  have d' := dvd_of_coprime hb' gp (mul_cancel_dvd (by omega) d)
  refine ⟨?_, d'⟩
  obtain ⟨k, hk⟩ := d'
  by_cases c : t ≤ x
  · exact c
  · exfalso
    have hk0 : k < 0 := by
      by_cases q : 0 ≤ k
      · have := Int.mul_nonneg (show 0 ≤ b' by omega) q
        omega
      · omega
    have : b' * k ≤ b' * (-1) := Int.mul_le_mul_of_nonneg_left (by omega) (by omega)
    omega
/-- is a side a sum of some of both -/
def isSum (a b s : Int) : Bool := match timesF a b s with
  | some t => decide (a * t ≤ s)
  | none => false
theorem isSum_iff {a b s : Int} (ha : 1 ≤ a) (hb : 1 ≤ b) : isSum a b s = true ↔ ∃ x y : Int, 0 ≤ x ∧ 0 ≤ y ∧ a * x + b * y = s := by
  unfold isSum
  cases h : timesF a b s with
  | none =>
    rw [times_none] at h
    simp only [Bool.false_eq_true, false_iff]
    rintro ⟨x, y, _, _, rfl⟩
    exact h (Int.dvd_add (Int.dvd_mul_of_dvd_left (gcd_dvd_l ..)) (Int.dvd_mul_of_dvd_left (gcd_dvd_r ..)))
  | some t =>
    obtain ⟨hs, t0, t1, dt⟩ := times_some ha hb h
    simp only [decide_eq_true_eq]
    constructor
    · intro hle
      obtain ⟨y, hy⟩ := dt
      refine ⟨t, y, t0, ?_, by omega⟩
      by_cases q : 0 ≤ y
      · exact q
      · have : b * y ≤ b * (-1) := Int.mul_le_mul_of_nonneg_left (by omega) (by omega)
        omega
    · rintro ⟨x, y, hx, hy, rfl⟩
      have q := (times_least ha hb h hx ⟨y, by omega⟩).1
      have := Int.mul_le_mul_of_nonneg_left q (show 0 ≤ a by omega)
      have := Int.mul_nonneg (show 0 ≤ b by omega) hy
      omega
end TW
set_option Elab.async false
set_option linter.all false
set_option maxRecDepth 100000
set_option maxHeartbeats 4000000
namespace TW
open PySem PySem.Spec PyProof.Rows L2 DL

/-! ### shapes: what can be shown and compared -/
mutual
/-- about as long as it is shown -/
def wgt : PyData → Nat
  | .none => 8
  | .bool _ => 8
  | .int i => i.natAbs.log2 + 9
  | .str x => (PyData.shown (.str x)).length
  | .list xs => wgtL xs + 4
  | .tuple xs => wgtL xs + 4
  | .dict _ => 4
def wgtL : List PyData → Nat
  | [] => 0
  | x :: xs => wgt x + 2 + wgtL xs
end
mutual
def okd (z : Bool) : PyData → Bool
  | .none => true
  | .bool _ => true
  | .int i => decide (i.natAbs.log2 < (if z = true then 1900 else 1800))
  | .str x => PyData.strOk x
  | .list xs => okdL z xs
  | .tuple xs => okdL z xs
  | .dict kvs => z && kvs.isEmpty
def okdL (z : Bool) : List PyData → Bool
  | [] => true
  | x :: xs => okd z x && okdL z xs
end
structure Shp (z : Bool) (n w : Nat) (d : PyData) : Prop where
  ok : okd z d = true
  dp : d.depth ≤ n
  wt : wgt d ≤ w
structure ShpL (z : Bool) (n w : Nat) (xs : List PyData) : Prop where
  ok : okdL z xs = true
  dp : PyData.depthAll xs ≤ n
  wt : wgtL xs ≤ w
theorem Shp.mono {z : Bool} {n m w v : Nat} {d : PyData} (h : Shp z n w d) (hn : n ≤ m) (hw : w ≤ v) : Shp z m v d := ⟨h.ok, Nat.le_trans h.dp hn, Nat.le_trans h.wt hw⟩
theorem ShpL.nil {z : Bool} {n : Nat} : ShpL z n 0 [] := ⟨by simp [okdL], by simp [PyData.depthAll], by simp [wgtL]⟩
theorem ShpL.cons {z : Bool} {n w v : Nat} {x : PyData} {xs : List PyData} (h : Shp z n w x) (t : ShpL z n v xs) : ShpL z n (w + 2 + v) (x :: xs) :=
  ⟨by simp [okdL, h.ok, t.ok], by have := h.dp; have := t.dp; simp [PyData.depthAll]; omega, by have := h.wt; have := t.wt; simp only [wgtL]; omega⟩
theorem ShpL.of {z : Bool} {n w : Nat} : ∀ {xs : List PyData}, (∀ x ∈ xs, Shp z n w x) → ShpL z n (xs.length * (w + 2)) xs
  | [], _ => by simpa using ShpL.nil
  | x :: xs, h => by
    have := ShpL.cons (h x (List.mem_cons_self ..)) (ShpL.of fun y hy => h y (List.mem_cons_of_mem _ hy))
    have e : w + 2 + xs.length * (w + 2) = (x :: xs).length * (w + 2) := by rw [List.length_cons, Nat.succ_mul]; omega
    rw [e] at this; exact this
theorem ShpL.map {α : Type} {z : Bool} {n w k : Nat} {as : List α} {f : α → PyData} (h : ∀ a ∈ as, Shp z n w (f a)) (hk : as.length ≤ k) : ShpL z n (k * (w + 2)) (as.map f) := by
  have := ShpL.of (xs := as.map f) (z := z) (n := n) (w := w) fun x hx => by
    obtain ⟨a, ha, rfl⟩ := List.mem_map.mp hx
    exact h a ha
  rw [List.length_map] at this
  exact ⟨this.ok, this.dp, Nat.le_trans this.wt (Nat.mul_le_mul_right _ hk)⟩
theorem ShpL.mono {z : Bool} {n m w v : Nat} {d : List PyData} (h : ShpL z n w d) (hn : n ≤ m) (hw : w ≤ v) : ShpL z m v d := ⟨h.ok, Nat.le_trans h.dp hn, Nat.le_trans h.wt hw⟩
theorem okdL_app {z : Bool} : ∀ (xs ys : List PyData), okdL z (xs ++ ys) = (okdL z xs && okdL z ys)
  | [], ys => by simp [okdL]
  | x :: xs, ys => by simp [okdL, okdL_app xs ys, Bool.and_assoc]
theorem depthAll_app : ∀ (xs ys : List PyData), PyData.depthAll (xs ++ ys) = max (PyData.depthAll xs) (PyData.depthAll ys)
  | [], ys => by simp [PyData.depthAll]
  | x :: xs, ys => by simp only [List.cons_append, PyData.depthAll, depthAll_app xs ys]; omega
theorem wgtL_app : ∀ (xs ys : List PyData), wgtL (xs ++ ys) = wgtL xs + wgtL ys
  | [], ys => by simp [wgtL]
  | x :: xs, ys => by simp [wgtL, wgtL_app xs ys]; omega
theorem ShpL.app {z : Bool} {n w v : Nat} {xs ys : List PyData} (h : ShpL z n w xs) (t : ShpL z n v ys) : ShpL z n (w + v) (xs ++ ys) :=
  ⟨by rw [okdL_app, h.ok, t.ok]; rfl, by rw [depthAll_app]; have := h.dp; have := t.dp; omega, by rw [wgtL_app]; have := h.wt; have := t.wt; omega⟩
theorem Shp.list {z : Bool} {n w : Nat} {xs : List PyData} (h : ShpL z n w xs) : Shp z (n + 1) (w + 4) (.list xs) :=
  ⟨by simp only [okd]; exact h.ok, by simp only [PyData.depth]; have := h.dp; omega, by simp only [wgt]; have := h.wt; omega⟩
theorem Shp.tuple {z : Bool} {n w : Nat} {xs : List PyData} (h : ShpL z n w xs) : Shp z (n + 1) (w + 4) (.tuple xs) :=
  ⟨by simp only [okd]; exact h.ok, by simp only [PyData.depth]; have := h.dp; omega, by simp only [wgt]; have := h.wt; omega⟩
theorem Shp.none {z : Bool} {n : Nat} : Shp z n 8 .none := ⟨by simp [okd], by simp [PyData.depth], by simp [wgt]⟩
theorem Shp.bool {z : Bool} {n : Nat} {b : Bool} : Shp z n 8 (.bool b) := ⟨by simp [okd], by simp [PyData.depth], by simp [wgt]⟩
theorem Shp.intB {z : Bool} {n k : Nat} {i : Int} (h : i.natAbs.log2 ≤ k) (hk : k < 1800) : Shp z n (k + 9) (.int i) := ⟨by simp [okd]; split <;> omega, by simp [PyData.depth], by simp [wgt]; omega⟩
theorem log_le {i : Int} {k : Nat} (h0 : -(2 ^ k) < i) (h1 : i < 2 ^ k) : i.natAbs.log2 ≤ k := by
  by_cases z : i = 0
  · subst z; simp
  · have e : ((2 ^ k : Nat) : Int) = 2 ^ k := by simp
    have : i.natAbs < 2 ^ k := by omega
    have := (Nat.log2_lt (by omega)).mpr this
    omega
theorem Shp.int64 {z : Bool} {n : Nat} {i : Int} (h0 : -(2 ^ 64) < i) (h1 : i < 2 ^ 64) : Shp z n 73 (.int i) := Shp.intB (log_le h0 h1) (by decide)
theorem Shp.int200 {z : Bool} {n : Nat} {i : Int} (h0 : -(2 ^ 200) < i) (h1 : i < 2 ^ 200) : Shp z n 209 (.int i) := Shp.intB (log_le h0 h1) (by decide)
theorem Shp.str {z : Bool} {n w : Nat} {x : Str} (h : PyData.strOk x = true) (hw : (PyData.shown (.str x)).length ≤ w) : Shp z n w (.str x) := ⟨by simp [okd, h], by simp [PyData.depth], by simp only [wgt]; exact hw⟩
theorem Shp.dict0 {n : Nat} : Shp true (n + 1) 4 (.dict []) := ⟨by simp [okd], by simp [PyData.depth, PyData.depthKv], by simp [wgt]⟩
theorem Shp.up {n w : Nat} {d : PyData} (h : Shp false n w d) : Shp true n w d := by
  have a : ∀ xs : List PyData, (∀ x ∈ xs, okd false x = true → okd true x = true) → okdL false xs = true → okdL true xs = true := by
    intro xs
    induction xs with
    | nil => intros; simp [okdL]
    | cons x xs ih =>
      intro h k
      simp only [okdL, Bool.and_eq_true] at k ⊢
      exact ⟨h x (List.mem_cons_self ..) k.1, ih (fun y hy => h y (List.mem_cons_of_mem _ hy)) k.2⟩
  refine ⟨?_, h.dp, h.wt⟩
  have := h.ok
  clear h
  revert this
  exact PyData.rec (motive_1 := fun d => okd false d = true → okd true d = true) (motive_2 := fun xs => okdL false xs = true → okdL true xs = true) (motive_3 := fun _ => True) (motive_4 := fun _ => True)
    (by simp [okd]) (by simp [okd]) (fun i h => by simp [okd] at h ⊢; omega) (by simp [okd]) (fun xs ih h => by simp only [okd] at h ⊢; exact ih h) (fun xs ih h => by simp only [okd] at h ⊢; exact ih h) (fun kvs _ h => by simp [okd] at h)
    (by simp [okdL]) (fun x xs h1 h2 h => by simp only [okdL, Bool.and_eq_true] at h ⊢; exact ⟨h1 h.1, h2 h.2⟩) trivial (fun _ _ _ _ => trivial) (fun _ _ _ _ => trivial) d

theorem okd_lay {z : Bool} (hz : z = false) (d : PyData) : okd z d = true → d.canLay0 = true := by
  subst hz
  exact PyData.rec (motive_1 := fun d => okd false d = true → d.canLay0 = true) (motive_2 := fun xs => okdL false xs = true → PyData.canLayAll0 xs = true) (motive_3 := fun _ => True) (motive_4 := fun _ => True)
    (by simp [PyData.canLay0]) (by simp [PyData.canLay0]) (by simp [PyData.canLay0]) (by simp [okd, PyData.canLay0]) (fun xs ih h => by simp only [okd] at h; simp only [PyData.canLay0]; exact ih h) (fun xs ih h => by simp only [okd] at h; simp only [PyData.canLay0]; exact ih h) (fun kvs _ h => by simp [okd] at h)
    (by simp [PyData.canLayAll0]) (fun x xs h1 h2 h => by simp only [okdL, Bool.and_eq_true] at h; simp only [PyData.canLayAll0, Bool.and_eq_true]; exact ⟨h1 h.1, h2 h.2⟩) trivial (fun _ _ _ _ => trivial) (fun _ _ _ _ => trivial) d
theorem okd_noDict {z : Bool} (hz : z = false) (d : PyData) : okd z d = true → d.hasDict = false := by
  subst hz
  exact PyData.rec (motive_1 := fun d => okd false d = true → d.hasDict = false) (motive_2 := fun xs => okdL false xs = true → PyData.hasDictAll xs = false) (motive_3 := fun _ => True) (motive_4 := fun _ => True)
    (by simp [PyData.hasDict]) (by simp [PyData.hasDict]) (by simp [PyData.hasDict]) (by simp [PyData.hasDict]) (fun xs ih h => by simp only [okd] at h; simp only [PyData.hasDict]; exact ih h) (fun xs ih h => by simp only [okd] at h; simp only [PyData.hasDict]; exact ih h) (fun kvs _ h => by simp [okd] at h)
    (by simp [PyData.hasDictAll]) (fun x xs h1 h2 h => by simp only [okdL, Bool.and_eq_true] at h; simp only [PyData.hasDictAll, Bool.or_eq_false_iff]; exact ⟨h1 h.1, h2 h.2⟩) trivial (fun _ _ _ _ => trivial) (fun _ _ _ _ => trivial) d
theorem okd_show {z : Bool} (d : PyData) : okd z d = true → d.showable = true := by
  exact PyData.rec (motive_1 := fun d => okd z d = true → d.showable = true) (motive_2 := fun xs => okdL z xs = true → PyData.showableAll xs = true) (motive_3 := fun _ => True) (motive_4 := fun _ => True)
    (by simp [PyData.showable]) (by simp [PyData.showable]) (fun i h => by simp only [okd, decide_eq_true_eq] at h; simp only [PyData.showable, decide_eq_true_eq]; split at h <;> omega) (by simp [PyData.showable]) (fun xs ih h => by simp only [okd] at h; simp only [PyData.showable]; exact ih h) (fun xs ih h => by simp only [okd] at h; simp only [PyData.showable]; exact ih h)
    (fun kvs _ h => by
      simp only [okd, Bool.and_eq_true] at h
      have : kvs = [] := by simpa using h.2
      subst this
      simp [PyData.showable, PyData.showableKv])
    (by simp [PyData.showableAll]) (fun x xs h1 h2 h => by simp only [okdL, Bool.and_eq_true] at h; simp only [PyData.showableAll, Bool.and_eq_true]; exact ⟨h1 h.1, h2 h.2⟩) trivial (fun _ _ _ _ => trivial) (fun _ _ _ _ => trivial) d
def lens (xs : List PyData) : Nat := (xs.map fun x => x.shown.length + 2).sum
theorem piled_lens : ∀ xs : List PyData, piled (xs.map PyData.shown) = lens xs
  | [] => by simp [piled, lens]
  | x :: xs => by
    have := piled_lens xs
    simp only [List.map_cons, piled, lens, List.sum_cons] at *
    omega
theorem textFrom_lens : ∀ (xs : List PyData) (k : Nat) (acc : Str), (textFrom k acc (xs.map PyData.shown)).length ≤ acc.length + lens xs
  | [], k, acc => by simp [textFrom, lens]
  | x :: r, k, acc => by
    have ih := textFrom_lens r (k + 1) (acc ++ (if k > 0 then ", " else "" : String) ++ x.shown)
    have e : (acc ++ (if k > 0 then ", " else "" : String) ++ x.shown).length ≤ acc.length + 2 + x.shown.length := by
      rw [strLen_append, strLen_append]
      split
      · have : ((", " : String) : Str).length = 2 := rfl
        omega
      · have : (("" : String) : Str).length = 0 := rfl
        omega
    show (textFrom (k + 1) _ (r.map PyData.shown)).length ≤ _
    simp only [lens, List.map_cons, List.sum_cons] at ih ⊢
    omega
theorem okd_len {z : Bool} (d : PyData) : okd z d = true → d.shown.length ≤ wgt d := by
  refine PyData.rec (motive_1 := fun d => okd z d = true → d.shown.length ≤ wgt d) (motive_2 := fun xs => okdL z xs = true → lens xs ≤ wgtL xs) (motive_3 := fun _ => True) (motive_4 := fun _ => True)
    ?_ ?_ ?_ ?_ ?_ ?_ ?_ ?_ ?_ trivial (fun _ _ _ _ => trivial) (fun _ _ _ _ => trivial) d
  · intro _; simp only [PyData.shown, wgt]; decide
  · intro b _; cases b <;> (simp only [PyData.shown, wgt]; decide)
  · intro i h
    have := int_text_length_le (show 0 < i.natAbs.log2 + 1 by omega) (show i.natAbs.log2 < i.natAbs.log2 + 1 by omega)
    simp only [PyData.shown, wgt]
    show (Str.ofString (toString i)).length ≤ _
    rw [PySem.ofString_length]
    omega
  · intro x _; simp only [wgt]; exact Nat.le_refl _
  · intro xs ih h
    have ih := ih (by simpa only [okd] using h)
    simp only [PyData.shown, shownAll_map, wgt]
    unfold listText
    rw [strLen_append]
    have q := textFrom_lens xs 0 "["
    have e1 : (("[" : String) : Str).length = 1 := rfl
    have e2 : (("]" : String) : Str).length = 1 := rfl
    omega
  · intro xs ih h
    have ih := ih (by simpa only [okd] using h)
    simp only [PyData.shown, shownAll_map, wgt]
    unfold tupleText
    rw [strLen_append, strLen_append]
    have e1 : (("(" : String) : Str).length = 1 := rfl
    have e2 : ((if (xs.map PyData.shown).length == 1 then ",)" else ")" : String) : Str).length ≤ 2 := by split <;> decide
    have j : (Str.join ", " (xs.map PyData.shown)).length ≤ piled (xs.map PyData.shown) := by
      by_cases z : xs.map PyData.shown = []
      · rw [z]; decide
      · have := join_length_add _ z; omega
    rw [piled_lens] at j
    omega
  · intro kvs _ h
    simp only [okd, Bool.and_eq_true] at h
    have : kvs = [] := by simpa using h.2
    subst this
    simp only [PyData.shown, wgt]
    decide
  · intro _; simp [lens, wgtL]
  · intro x xs h1 h2 h
    simp only [okdL, Bool.and_eq_true] at h
    have h1 := h1 h.1
    have h2 := h2 h.2
    simp only [lens, List.map_cons, List.sum_cons, wgtL] at *
    omega
theorem Shp.shaped {n w : Nat} {d : PyData} (h : Shp false n w d) (hn : n ≤ 60 := by decide) : SeqAt.shaped d = true := by
  have := okd_lay rfl d h.ok
  simp only [SeqAt.shaped, this, Bool.true_and, decide_eq_true_eq]
  have := h.dp
  omega
theorem Shp.repr {z : Bool} {n w : Nat} {d : PyData} {X : Prop} (h : Shp z n w d) (k : X) (hn : n ≤ 60 := by decide) (hw : w ≤ 16000000 := by decide) : d.showable = true ∧ d.depth ≤ 60 ∧ d.shown.length ≤ 16000000 ∧ X :=
  ⟨okd_show d h.ok, Nat.le_trans h.dp hn, Nat.le_trans (okd_len d h.ok) (Nat.le_trans h.wt hw), k⟩
/-- equal data, compared -/
theorem eqv_refl' {n w : Nat} {d : PyData} (h : Shp false n w d) : PyData.eqv d d = true := SeqAt.eqv_refl d (okd_lay rfl d h.ok)
/-! ### parts of a row -/
theorem okdL_iff {z : Bool} : ∀ {xs : List PyData}, okdL z xs = true ↔ ∀ x ∈ xs, okd z x = true
  | [] => by simp [okdL]
  | x :: xs => by simp [okdL, okdL_iff (xs := xs)]
theorem depthL_iff {n : Nat} : ∀ {xs : List PyData}, PyData.depthAll xs ≤ n ↔ ∀ x ∈ xs, x.depth ≤ n
  | [] => by simp [PyData.depthAll]
  | x :: xs => by
    simp only [PyData.depthAll, List.forall_mem_cons, ← depthL_iff (xs := xs)]
    omega
theorem wgtL_mem : ∀ {xs : List PyData} {x : PyData}, x ∈ xs → wgt x + 2 ≤ wgtL xs
  | y :: ys, x, h => by
    simp only [wgtL]
    rcases List.mem_cons.mp h with rfl | h
    · omega
    · have := wgtL_mem h; omega
theorem wgtL_take : ∀ (xs : List PyData) (n : Nat), wgtL (xs.take n) ≤ wgtL xs
  | [], n => by simp
  | x :: xs, 0 => by simp [wgtL]
  | x :: xs, n + 1 => by have := wgtL_take xs n; simp only [List.take_succ_cons, wgtL]; omega
theorem wgtL_drop : ∀ (xs : List PyData) (n : Nat), wgtL (xs.drop n) ≤ wgtL xs
  | [], n => by simp
  | x :: xs, 0 => by simp
  | x :: xs, n + 1 => by have := wgtL_drop xs n; simp only [List.drop_succ_cons, wgtL]; omega
theorem wgtL_rev : ∀ (xs : List PyData), wgtL xs.reverse = wgtL xs
  | [] => rfl
  | x :: xs => by rw [List.reverse_cons, wgtL_app, wgtL_rev xs]; simp [wgtL]; omega
theorem ShpL.part {z : Bool} {n w : Nat} {xs ys : List PyData} (h : ShpL z n w xs) (hm : ∀ y ∈ ys, y ∈ xs) (hw : wgtL ys ≤ wgtL xs) : ShpL z n w ys :=
  ⟨okdL_iff.mpr fun y hy => okdL_iff.mp h.ok y (hm y hy), depthL_iff.mpr fun y hy => depthL_iff.mp h.dp y (hm y hy), Nat.le_trans hw h.wt⟩
theorem ShpL.take {z : Bool} {n w : Nat} {xs : List PyData} (h : ShpL z n w xs) (k : Nat) : ShpL z n w (xs.take k) := h.part (fun _ hy => List.mem_of_mem_take hy) (wgtL_take _ _)
theorem ShpL.drop {z : Bool} {n w : Nat} {xs : List PyData} (h : ShpL z n w xs) (k : Nat) : ShpL z n w (xs.drop k) := h.part (fun _ hy => List.mem_of_mem_drop hy) (wgtL_drop _ _)
theorem ShpL.rev {z : Bool} {n w : Nat} {xs : List PyData} (h : ShpL z n w xs) : ShpL z n w xs.reverse := h.part (fun _ hy => List.mem_reverse.mp hy) (by rw [wgtL_rev]; exact Nat.le_refl _)
theorem ShpL.cut {z : Bool} {n w : Nat} {xs : List PyData} (h : ShpL z n w xs) (lo hi : Option Int) : ShpL z n w (DL.cutD xs lo hi) := by
  unfold DL.cutD
  exact (h.drop _).take _
theorem ShpL.mem {z : Bool} {n w : Nat} {xs : List PyData} (h : ShpL z n w xs) {x : PyData} (hx : x ∈ xs) : Shp z n w x :=
  ⟨okdL_iff.mp h.ok x hx, depthL_iff.mp h.dp x hx, by have := wgtL_mem hx; have := h.wt; omega⟩
theorem Shp.items {z : Bool} {n w : Nat} {xs : List PyData} (h : Shp z (n + 1) w (.tuple xs)) : ShpL z n w xs :=
  ⟨by have := h.ok; simpa only [okd] using this, by have := h.dp; simp only [PyData.depth] at this; omega, by have := h.wt; simp only [wgt] at this; omega⟩
theorem Shp.pos {z : Bool} {n w : Nat} {xs : List PyData} (h : Shp z n w (.tuple xs)) : ∃ m, n = m + 1 := by
  have := h.dp
  simp only [PyData.depth] at this
  exact ⟨n - 1, by omega⟩
theorem ShpL.up {n w : Nat} {xs : List PyData} (h : ShpL false n w xs) : ShpL true n w xs :=
  ⟨okdL_iff.mpr fun x hx => (Shp.up (h.mem hx)).ok, h.dp, h.wt⟩
theorem cutD_len {α : Type} (xs : List α) (lo hi : Option Int) : (DL.cutD xs lo hi).length ≤ xs.length := by
  unfold DL.cutD
  exact Nat.le_trans (List.length_take_le' ..) (by simp)
/-! ### texts -/
theorem strOk_of (s : String) : PyData.strOk (Str.ofString s) = true := by
  unfold PyData.strOk
  rw [Str.ofString_eq_toList]
  simp only [Array.all_toList.symm, List.all_eq_true, List.mem_map, decide_eq_true_eq]
  rintro x ⟨c, _, rfl⟩
  have := c.valid
  simp only [UInt32.isValidChar, Nat.isValidChar] at this
  show c.val.toNat < _
  omega
theorem Shp.text {z : Bool} {n k : Nat} {x : Str} (h : PyData.strOk x = true) (hk : x.length ≤ k) : Shp z n (10 * k + 2) (.str x) := by
  refine Shp.str h ?_
  have h2 : ∀ c ∈ x.cps.toList, c < 16 ^ 8 := fun c hc => by
    unfold PyData.strOk at h
    rw [← Array.all_toList, List.all_eq_true] at h
    have := h c hc
    simp only [decide_eq_true_eq] at this
    omega
  have := StrLaws.reprText_len x h2
  simp only [PyData.shown]
  omega
theorem Shp.ofStr {z : Bool} {n k : Nat} {s : String} (hk : s.length ≤ k) : Shp z n (10 * k + 2) (.str (Str.ofString s)) := Shp.text (strOk_of s) (by rw [PySem.ofString_length]; exact hk)
theorem Shp.int1 {n k : Nat} {i : Int} (h : i.natAbs.log2 ≤ k) (hk : k < 1900) : Shp true n (k + 9) (.int i) := ⟨by simp [okd]; omega, by simp [PyData.depth], by simp [wgt]; omega⟩
theorem Shp.intStr {z : Bool} {n k : Nat} {i : Int} (h : i.natAbs.log2 ≤ k) : Shp z n (10 * (k + 2) + 2) (.str (toString i : String)) :=
  Shp.ofStr (by have := int_text_length_le (a := i) (k := k + 1) (by omega) (by omega); omega)
end TW
set_option Elab.async false
set_option linter.all false
set_option maxRecDepth 100000
set_option maxHeartbeats 4000000
namespace TW
open PySem PySem.Spec PyProof.Rows L2 DL

/-! ### tuples of ints -/
abbrev lI (ns : List Int) : List PyData := ns.map PyData.int
abbrev tI (ns : List Int) : PyData := .tuple (lI ns)
abbrev lN (ns : List Nat) : List PyData := ns.map fun (i : Nat) => PyData.int (i : Int)
abbrev prD (a b : List Int) : PyData := .tuple [tI a, tI b]
/-- the item at a place -/
def gi (ns : List Int) (i : Nat) : Int := ns[i]?.getD 1
theorem gi_at {ns : List Int} {i : Nat} (h : i < ns.length) : ns[i]? = some (gi ns i) := by
  unfold gi; rw [List.getElem?_eq_getElem h]; rfl
theorem gi_mem {ns : List Int} {i : Nat} (h : i < ns.length) : gi ns i ∈ ns := by
  have := gi_at h
  exact List.mem_of_getElem? this
@[simp] theorem gi_cons0 (x : Int) (xs : List Int) : gi (x :: xs) 0 = x := rfl
@[simp] theorem gi_consS (x : Int) (xs : List Int) (i : Nat) : gi (x :: xs) (i + 1) = gi xs i := by simp [gi]
@[simp] theorem gi_cons1 (x : Int) (xs : List Int) : gi (x :: xs) 1 = gi xs 0 := by simp [gi]
/-- an item of a row, read -/
theorem ix_gi {ns : List Int} {i : Nat} {R : PyData → Prop} (h : i < ns.length) : pIx (tI ns) (.int (i : Nat)) R = R (.int (gi ns i)) := by
  simp [gi_at h]
theorem ixl_gi {ns : List Int} {i : Nat} {R : PyData → Prop} (h : i < ns.length) : pIx (.list (lI ns)) (.int (i : Nat)) R = R (.int (gi ns i)) := by
  simp [gi_at h]
theorem range_gi (ns : List Int) : (List.range ns.length).map (gi ns) = ns := by
  apply List.ext_getElem?
  intro i
  by_cases h : i < ns.length
  · rw [List.getElem?_map, List.getElem?_range h, gi_at h]; rfl
  · rw [List.getElem?_eq_none (by simp; omega), List.getElem?_eq_none (by omega)]
theorem numbered_gi (ns : List Int) : numbered 0 (lI ns) = (List.range ns.length).map fun (i : Nat) => .tuple [.int (i : Int), .int (gi ns i)] := by
  rw [numbered_zip]
  apply List.ext_getElem?
  intro i
  by_cases h : i < ns.length
  · have e : ns[i]? = some ns[i] := List.getElem?_eq_getElem h
    rw [List.getElem?_map, List.getElem?_map, List.getElem?_range h, List.getElem?_zipIdx, e]
    have := gi_at h
    rw [e] at this
    simp [Option.some.inj this]
  · rw [List.getElem?_eq_none (by simp; omega), List.getElem?_eq_none (by simp; omega)]
theorem zip_gi {as bs : List Int} (h : as.length = bs.length) : as.zip bs = (List.range as.length).map fun i => (gi as i, gi bs i) := by
  apply List.ext_getElem?
  intro i
  by_cases hi : i < as.length
  · have e : (as.zip bs)[i]? = some (gi as i, gi bs i) := List.getElem?_zip_eq_some.mpr ⟨gi_at hi, gi_at (by omega)⟩
    rw [List.getElem?_map, List.getElem?_range hi, e]; rfl
  · rw [List.getElem?_eq_none (by simp; omega), List.getElem?_eq_none (by simp; omega)]
theorem gi_ext {as bs : List Int} (hl : as.length = bs.length) (h : ∀ i, i < as.length → gi as i = gi bs i) : as = bs := by
  rw [← range_gi as, ← range_gi bs, ← hl]
  exact List.map_congr_left fun i hi => h i (List.mem_range.mp hi)
theorem gi_map {as : List Int} {f : Int → Int} {i : Nat} (h : i < as.length) : gi (as.map f) i = f (gi as i) := by
  have := gi_at (ns := as.map f) (i := i) (by simpa using h)
  rw [List.getElem?_map, gi_at h] at this
  exact (Option.some.inj this).symm
theorem gi_range {n i : Nat} {f : Nat → Int} (h : i < n) : gi ((List.range n).map f) i = f i := by
  have := gi_at (ns := (List.range n).map f) (i := i) (by simpa using h)
  rw [List.getElem?_map, List.getElem?_range h] at this
  exact (Option.some.inj this).symm
theorem fm_map {α β : Type} (p : α → Bool) (f : α → β) (as : List α) : as.filterMap (fun a => if p a = true then some (f a) else none) = (as.filter p).map f := by
  induction as with
  | nil => rfl
  | cons a as ih => by_cases h : p a = true <;> simp [h, ih]
/-! ### shapes of these -/
theorem shp_ints {z : Bool} {k L : Nat} {ns : List Int} (hl : ns.length ≤ L) (h : ∀ x ∈ ns, x.natAbs.log2 ≤ k) (hk : k < 1800 := by decide) : ShpL z 0 (L * (k + 9 + 2)) (lI ns) := ShpL.map (fun a ha => Shp.intB (h a ha) hk) hl
theorem okd_ints : ∀ ns : List Int, PyData.canLayAll0 (lI ns) = true := canLay_ints
theorem shaped_nats (ns : List Nat) : SeqAt.shaped (.list (lN ns)) = true := by
  have := shaped_ints (ns.map fun (i : Nat) => (i : Int))
  rw [List.map_map] at this; exact this
theorem eqv_nats (ns : List Nat) : PyData.eqvAll (lN ns) [] = ns.isEmpty := by
  cases ns <;> simp [PyData.eqvAll]
theorem shaped_nil : SeqAt.shaped (.list []) = true := by decide
theorem eqvAll_ints : ∀ (as bs : List Int), PyData.eqvAll (lI as) (lI bs) = decide (as = bs)
  | [], [] => by simp [PyData.eqvAll]
  | [], _ :: _ => by simp [PyData.eqvAll]
  | _ :: _, [] => by simp [PyData.eqvAll]
  | a :: as, b :: bs => by
    have := eqvAll_ints as bs
    simp only [lI, List.map_cons, PyData.eqvAll, PyData.eqv] at this ⊢
    rw [this]
    by_cases h : a = b <;> simp [h]
/-! ### counted loops -/
theorem nums_succ (lo : Int) (n : Nat) : nums lo (n + 1) = .int lo :: nums (lo + 1) n := by
  rw [nums_map, nums_map, List.range_succ_eq_map, List.map_cons, List.map_map]
  congr 1
  · simp
  · apply List.map_congr_left; intro i _; simp; omega
theorem for_cntZ {g : DTG} {b : DTS} {δ : DS} {E : DEnds} {u : Stop E} (lo : Int) (n : Nat) (P : Nat → DS → Prop) (Q : DS → Prop) (Z : PyData → DS → Prop) (h : P 0 δ) (h0 : ∀ δ, P n δ → E.nx δ) (hq : ∀ δ, Q δ → E.nx δ) (hz : ∀ x δ, Z x δ → E.rt x δ)
    (hs : ∀ i δ, i < n → P i δ → ∀ (K B : DS → Prop) (T : PyData → DS → Prop), (∀ δ', P (i + 1) δ' → K δ') → (∀ δ', Q δ' → B δ') → (∀ x δ', Z x δ' → T x δ') → g (.int (lo + (i : Int))) δ fun δ1 => b { nx := K, rt := T, bk := B, ct := K } δ1) : forC g b (nums lo n) δ E u := by
  refine for_inv (fun xs δ => ∃ i, i ≤ n ∧ xs = nums (lo + (i : Int)) (n - i) ∧ P i δ) Q Z ⟨0, by omega, by simp, h⟩ ?_ hq hz ?_
  · rintro δ ⟨i, hi, hx, hp⟩
    have : i = n := by
      have := congrArg List.length hx
      simp [nums] at this; omega
    subst this
    exact h0 δ hp
  · rintro x xs δ ⟨i, hi, hx, hp⟩ K B T hK hB hT
    have hlt : i < n := by
      have := congrArg List.length hx
      simp [nums] at this; omega
    rw [show n - i = (n - i - 1) + 1 by omega, nums_succ, List.cons.injEq] at hx
    obtain ⟨rfl, rfl⟩ := hx
    refine hs i δ hlt hp K B T (fun δ' hp' => hK δ' ⟨i + 1, by omega, ?_, hp'⟩) hB hT
    congr 1
    omega
theorem for_cnt {g : DTG} {b : DTS} {δ : DS} {E : DEnds} {u : Stop E} (lo : Int) (n : Nat) (P : Nat → DS → Prop) (h : P 0 δ) (h0 : ∀ δ, P n δ → E.nx δ)
    (hs : ∀ i δ, i < n → P i δ → ∀ (K B : DS → Prop) (T : PyData → DS → Prop), (∀ δ', P (i + 1) δ' → K δ') → g (.int (lo + (i : Int))) δ fun δ1 => b { nx := K, rt := T, bk := B, ct := K } δ1) : forC g b (nums lo n) δ E u :=
  for_cntZ lo n P (fun _ => False) (fun _ _ => False) h h0 (fun _ h => h.elim) (fun _ _ h => h.elim) fun i δ hi hp K B T hK _ _ => hs i δ hi hp K B T hK
/-- a loop through which one thing stays so (never left) -/
theorem for_stay {g : DTG} {b : DTS} {δ : DS} {E : DEnds} {u : Stop E} {xs : List PyData} (P : DS → Prop) (h : P δ) (h0 : ∀ δ, P δ → E.nx δ)
    (hs : ∀ x ∈ xs, ∀ δ, P δ → ∀ (K B : DS → Prop) (T : PyData → DS → Prop), (∀ δ', P δ' → K δ') → g x δ fun δ1 => b { nx := K, rt := T, bk := B, ct := K } δ1) : forC g b xs δ E u :=
  for_inv (fun ys δ => (∀ y ∈ ys, y ∈ xs) ∧ P δ) (fun _ => False) (fun _ _ => False) ⟨fun _ h => h, h⟩ (fun δ h => h0 δ h.2) (fun _ h => h.elim) (fun _ _ h => h.elim) fun x ys δ h K B T hK _ _ =>
    hs x (h.1 x (List.mem_cons_self ..)) δ h.2 K B T fun δ' hp => hK δ' ⟨fun y hy => h.1 y (List.mem_cons_of_mem _ hy), hp⟩
/-! ### walks over written lists, unrolled -/
theorem com_nil {g : DTG} {t : DT} {e : DE} {vs : List Nat} {acc : List PyData} {δ : DS} {R : List PyData → DS → Prop} {u : Stop R} : comC g t e vs [] acc δ R u = R acc δ := rfl
theorem com_cons {g : DTG} {t : DT} {e : DE} {vs : List Nat} {x : PyData} {xs acc : List PyData} {δ : DS} {R : List PyData → DS → Prop} {u : Stop R} : comC g t e vs (x :: xs) acc δ R u =
  (g x δ fun δ1 => t δ1 fun b δ2 => if b = true then e δ2 fun o δ3 => lk o δ3 fun y δ4 => comC g t e vs xs (acc ++ [y]) (wipeD δ4 vs) R .mk else comC g t e vs xs acc (wipeD δ2 vs) R .mk) := rfl
theorem for_nil {g : DTG} {b : DTS} {δ : DS} {E : DEnds} {u : Stop E} : forC g b [] δ E u = E.nx δ := rfl
def forK (g : DTG) (b : DTS) (xs : List PyData) (E : DEnds) : DS → Prop := fun δ => forC g b xs δ E .mk
theorem forK_ap (g : DTG) (b : DTS) (xs : List PyData) (E : DEnds) (δ : DS) : forK g b xs E δ = forC g b xs δ E .mk := rfl
theorem for_cons {g : DTG} {b : DTS} {x : PyData} {xs : List PyData} {δ : DS} {E : DEnds} {u : Stop E} : forC g b (x :: xs) δ E u = (g x δ fun δ1 => b { nx := forK g b xs E, rt := E.rt, bk := E.nx, ct := forK g b xs E } δ1) := rfl
/-- as com_map, where other slots may change -/
theorem com_mapP {g : DTG} {t : DT} {e : DE} {vs : List Nat} {xs : List PyData} {δ : DS} {α : Type} {R : List PyData → DS → Prop} {u : Stop R} (P : DS → Prop) (h : P δ) (as : List α) (d : α → PyData) (hx : xs = as.map d) (f : α → Option PyData)
    (hs : ∀ a ∈ as, ∀ δ, P δ → ∀ (acc : List PyData) (K : List PyData → DS → Prop), (∀ δ', P δ' → K (acc ++ (f a).toList) δ') → g (d a) δ fun δ1 => t δ1 fun b δ2 => if b = true then e δ2 fun o δ3 => lk o δ3 fun y δ4 => K (acc ++ [y]) (wipeD δ4 vs) else K acc (wipeD δ2 vs)) (k : ∀ δ, P δ → R (as.filterMap f) δ) : comC g t e vs xs [] δ R u := by
  subst hx
  refine com_inv (fun ys acc δ' => P δ' ∧ ∃ bs : List α, ys = bs.map d ∧ (∀ x ∈ bs, x ∈ as) ∧ acc ++ bs.filterMap f = as.filterMap f) ⟨h, as, rfl, fun _ h => h, rfl⟩ ?_ ?_
  · rintro acc δ' ⟨hp, bs, hb, _, h⟩
    have : bs = [] := by cases bs with
      | nil => rfl
      | cons => cases hb
    subst this
    have h' : acc = as.filterMap f := by simpa using h
    rw [h']; exact k _ hp
  · rintro x ys acc δ' ⟨hp, bs, hb, hm, h⟩ K hK
    cases bs with
    | nil => cases hb
    | cons a bs =>
      simp only [List.map_cons, List.cons.injEq] at hb
      obtain ⟨rfl, rfl⟩ := hb
      refine hs a (hm a (List.mem_cons_self ..)) δ' hp acc K fun δ'' hp' => hK _ _ ⟨hp', bs, rfl, fun y hy => hm y (List.mem_cons_of_mem _ hy), ?_⟩
      rw [← h, List.filterMap_cons]
      cases f a <;> simp
/-- a loop that looks for the first item of a sort, and returns there -/
theorem for_find {g : DTG} {b : DTS} {δ : DS} {E : DEnds} {u : Stop E} {xs : List PyData} {α : Type} (as : List α) (d : α → PyData) (hx : xs = as.map d) (P : DS → Prop) (bad : α → Bool) (r : α → PyData) (h : P δ)
    (h0 : as.find? bad = none → ∀ δ, P δ → E.nx δ) (h1 : ∀ a, as.find? bad = some a → ∀ δ, P δ → E.rt (r a) δ)
    (hs : ∀ pre a post δ, as = pre ++ a :: post → (∀ x ∈ pre, bad x = false) → P δ → ∀ (K B : DS → Prop) (T : PyData → DS → Prop), (bad a = false → ∀ δ', P δ' → K δ') → (bad a = true → ∀ δ', P δ' → T (r a) δ') → g (d a) δ fun δ1 => b { nx := K, rt := T, bk := B, ct := K } δ1) : forC g b xs δ E u := by
  refine for_map as d hx (fun rest δ => ∃ pre, as = pre ++ rest ∧ (∀ x ∈ pre, bad x = false) ∧ P δ) (fun _ => False) (fun x δ => ∃ a, as.find? bad = some a ∧ x = r a ∧ P δ) ⟨[], rfl, by simp, h⟩ ?_ (fun _ h => h.elim) ?_ ?_
  · rintro δ ⟨pre, he, hp, hP⟩
    have : pre = as := by rw [he]; simp
    subst this
    exact h0 (List.find?_eq_none.mpr fun x hx => by simp [hp x hx]) δ hP
  · rintro x δ ⟨a, ha, rfl, hP⟩
    exact h1 a ha δ hP
  · rintro a rest δ ⟨pre, he, hp, hP⟩ K B T hK _ hT
    refine hs pre a rest δ he hp hP K B T (fun hb δ' hP' => hK δ' ⟨pre ++ [a], by rw [he]; simp, fun x hx => ?_, hP'⟩) (fun hb δ' hP' => hT _ δ' ⟨a, ?_, rfl, hP'⟩)
    · rcases List.mem_append.mp hx with q | q
      · exact hp x q
      · rw [List.mem_singleton.mp q]; exact hb
    · rw [he, List.find?_append]
      have : pre.find? bad = none := List.find?_eq_none.mpr fun x hx => by simp [hp x hx]
      rw [this, List.find?_cons, hb]; rfl
/-- the item at a place -/
def gd (ds : List PyData) (i : Nat) : PyData := ds[i]?.getD .none
theorem gd_at {ds : List PyData} {i : Nat} (h : i < ds.length) : ds[i]? = some (gd ds i) := by
  unfold gd; rw [List.getElem?_eq_getElem h]; rfl
theorem range_gd (ds : List PyData) : (List.range ds.length).map (gd ds) = ds := by
  apply List.ext_getElem?
  intro i
  by_cases h : i < ds.length
  · rw [List.getElem?_map, List.getElem?_range h, gd_at h]; rfl
  · rw [List.getElem?_eq_none (by simp; omega), List.getElem?_eq_none (by omega)]
theorem numbered_gd (ds : List PyData) : numbered 0 ds = (List.range ds.length).map fun (i : Nat) => .tuple [.int (i : Int), gd ds i] := by
  have := numbered_zip id ds 0
  rw [List.map_id] at this
  rw [this]
  apply List.ext_getElem?
  intro i
  by_cases h : i < ds.length
  · have e : ds[i]? = some ds[i] := List.getElem?_eq_getElem h
    rw [List.getElem?_map, List.getElem?_map, List.getElem?_range h, List.getElem?_zipIdx, e]
    have := gd_at h
    rw [e] at this
    simp [Option.some.inj this]
  · rw [List.getElem?_eq_none (by simp; omega), List.getElem?_eq_none (by simp; omega)]
end TW
set_option Elab.async false
set_option linter.all false
set_option maxRecDepth 100000
set_option maxHeartbeats 4000000
namespace TW
open PySem PySem.NumText DL
/-! ### texts of numbers, of sides, of kinds, as rows of signs -/
def dg (m : Nat) : List Nat := (Nat.toDigits 10 m).map Char.toNat
theorem sign_digit : ∀ d : Nat, d < 10 → (Nat.digitChar d).toNat = 48 + d := by decide
theorem dg_small {m : Nat} (h : m < 10) : dg m = [48 + m] := by
  rw [dg, Nat.toDigits_of_lt_base h, List.map_singleton, sign_digit m h]
theorem dg_more {m : Nat} (h : 10 ≤ m) : dg m = dg (m / 10) ++ [48 + m % 10] := by
  have last : m % 10 < 10 := Nat.mod_lt m (by decide)
  have two := Nat.toDigits_append_toDigits (b := 10) (n := m / 10) (d := m % 10) (by decide) (by omega) last
  rw [Nat.div_add_mod] at two
  rw [dg, ← two, List.map_append, Nat.toDigits_of_lt_base last, List.map_singleton, sign_digit _ last, dg]
theorem dg_ind {P : Nat → Prop} (small : ∀ m, m < 10 → P m) (more : ∀ m, 10 ≤ m → P (m / 10) → P m) (m : Nat) : P m := by
  induction m using Nat.strongRecOn with
  | _ m ih => exact (Nat.lt_or_ge m 10).elim (small m) fun h => more m h (ih _ (Nat.div_lt_self (by omega) (by decide)))
theorem dg_all : ∀ m : Nat, AllDigits (dg m) := dg_ind
  (fun m h c hc => by rw [dg_small h, List.mem_singleton] at hc; omega)
  fun m h ih c hc => by
    rw [dg_more h, List.mem_append, List.mem_singleton] at hc
    rcases hc with hc | hc
    · exact ih c hc
    · have := Nat.mod_lt m (show 0 < 10 by decide); omega
theorem dg_head : ∀ m : Nat, 1 ≤ m → ∃ c r, dg m = c :: r ∧ 49 ≤ c := dg_ind
  (fun m h p => ⟨48 + m, [], dg_small h, by omega⟩)
  fun m h ih p => by
    obtain ⟨c, r, e, hc⟩ := ih (by omega)
    exact ⟨c, r ++ [48 + m % 10], by rw [dg_more h, e, List.cons_append], hc⟩
theorem dg_val (m : Nat) : digitsVal (dg m) = m := PySem.W.KIN.val_back m
theorem dg_len : ∀ (k m : Nat), m < 10 ^ k → (dg m).length ≤ max 1 k
  | 0, m, h => by rw [dg_small (by omega)]; simp
  | k + 1, m, h => by
    rcases Nat.lt_or_ge m 10 with s | s
    · rw [dg_small s]; simp
    · have := dg_len k (m / 10) (by rw [Nat.pow_succ] at h; omega)
      rw [dg_more s, List.length_append, List.length_singleton]
      rcases Nat.eq_zero_or_pos k with z | z
      · subst z; exact absurd (show m < 10 from h) (by omega)
      · omega
theorem dg_ne (m : Nat) : dg m ≠ [] := by
  rcases Nat.lt_or_ge m 10 with s | s
  · rw [dg_small s]; simp
  · rw [dg_more s]; simp
/-- what a number's first digits are worth -/
theorem val_take (l : List Nat) (j : Nat) (h : j < l.length) : digitsVal (l.take (j + 1)) = digitsVal (l.take j) * 10 + (l[j] - 48) := by
  rw [List.take_succ_eq_append_getElem h, digitsVal_snoc]
theorem val_le (l : List Nat) (j : Nat) : digitsVal (l.take j) ≤ digitsVal l := by
  conv => rhs; rw [← List.take_append_drop j l]
  unfold digitsVal
  rw [List.foldl_append]
  exact foldl_ge _ _
theorem text_num {n : Int} (h : 0 ≤ n) : Str.ofString (toString n) = ⟨(dg n.toNat).toArray⟩ := by
  obtain ⟨m, rfl⟩ := Int.eq_ofNat_of_zero_le h
  have := PySem.W.KIN.signs_num m
  cases e : Str.ofString (toString ((m : Nat) : Int)) with
  | mk cps => rw [e] at this; rw [Int.toNat_natCast]; congr 1; rw [← Array.toArray_toList (xs := cps), this]; rfl
/-- the value of one digit -/
theorem one_digit {c : Nat} (h : 48 ≤ c ∧ c ≤ 57) : intText? ⟨#[c]⟩ = some ((c - 48 : Nat) : Int) := by
  have a : AllDigits ((⟨#[c]⟩ : Str).cps.toList) := fun d hd => by simp at hd; omega
  have := intText_digits a (by simp) (by simp [Str.length])
  rw [this]
  simp [digitsVal]
/-- rows of signs with a sign between them -/
def glue (c : Nat) : List (List Nat) → List Nat
  | [] => []
  | [a] => a
  | a :: b :: r => a ++ c :: glue c (b :: r)
/-- sides between x, kinds between blanks -/
def sx (ns : List Int) : List Nat := glue 120 (ns.map fun n => dg n.toNat)
def kx (kss : List (List Int)) : List Nat := glue 32 (kss.map sx)
theorem glue_cons (c : Nat) (a b : List Nat) (r : List (List Nat)) : glue c (a :: b :: r) = a ++ c :: glue c (b :: r) := rfl
def S (l : List Nat) : Str := ⟨l.toArray⟩
theorem S_app (l m : List Nat) : S l ++ S m = S (l ++ m) := by
  show (⟨l.toArray ++ m.toArray⟩ : Str) = ⟨(l ++ m).toArray⟩
  rw [List.append_toArray]
theorem join_S (c : Nat) : ∀ ls : List (List Nat), Str.join (S [c]) (ls.map S) = S (glue c ls)
  | [] => rfl
  | [a] => rfl
  | a :: b :: r => by
    have ih := join_S c (b :: r)
    rw [List.map_cons] at ih
    show S a ++ S [c] ++ Str.join (S [c]) (S b :: r.map S) = _
    rw [ih, S_app, S_app, glue_cons, List.append_assoc]
    rfl
theorem glue_len {c B : Nat} : ∀ {ls : List (List Nat)}, (∀ l ∈ ls, l.length ≤ B) → (glue c ls).length ≤ ls.length * (B + 1)
  | [], _ => by simp [glue]
  | [a], h => by have := h a (by simp); simp [glue]; omega
  | a :: b :: r, h => by
    have h1 := h a (by simp)
    have h2 := glue_len (c := c) (ls := b :: r) fun l m => h l (List.mem_cons_of_mem _ m)
    have e : (a :: b :: r).length * (B + 1) = (b :: r).length * (B + 1) + (B + 1) := Nat.succ_mul _ _
    rw [glue_cons, List.length_append, List.length_cons, e]
    omega
theorem sum_len {B : Nat} : ∀ {ls : List (List Nat)}, (∀ l ∈ ls, l.length ≤ B) → ((ls.map S).map (·.length)).sum ≤ ls.length * B
  | [], _ => by simp
  | a :: r, h => by
    have h1 := h a (by simp)
    have h2 := sum_len (ls := r) fun l m => h l (by simp [m])
    have h3 : (S a).length = a.length := by simp [S, Str.length]
    rw [List.map_cons, List.map_cons, List.sum_cons, h3, List.length_cons, Nat.succ_mul]
    omega
theorem len_S {l : List Nat} : (⟨l.toArray⟩ : Str).length = l.length := by simp [Str.length]
/-- a number's text -/
def nS (n : Int) : Str := S (dg n.toNat)
theorem text_rep {n : Int} (h : 0 ≤ n) : Str.ofString n.repr = nS n := by have := text_num h; simpa [nS, S] using this
theorem nS_len {n : Int} (h : n ≤ 10 ^ 12) : (nS n).length ≤ 13 := by
  rw [nS, S, len_S]
  exact Nat.le_trans (dg_len 13 n.toNat (by omega)) (by decide)
theorem fig_mem (c : Nat) : (c ∈ (Str.ofString "0123456789").cps.toList) = (48 ≤ c ∧ c ≤ 57) := by
  have e : (Str.ofString "0123456789").cps.toList = [48, 49, 50, 51, 52, 53, 54, 55, 56, 57] := by decide
  rw [e]
  exact propext (by simp; omega)
theorem is_sign (c : Nat) (l : List Nat) (s : Str) (e : s = ⟨#[l.headD 0]⟩) : ((⟨#[c]⟩ : Str) = s) = (c = l.headD 0) := by subst e; simp
end TW
set_option Elab.async false
set_option linter.all false
set_option maxRecDepth 100000
set_option maxHeartbeats 4000000
namespace TW
open PySem PySem.Spec PyProof.Rows L2 DL
def sp_common : DSp := fun cs R => ∃ a b, cs = [.d (.int a), .d (.int b)] ∧ 0 ≤ a ∧ 0 ≤ b ∧ R (.int (gcdI a b)) cs
def sp_inverse : DSp := fun cs R => ∃ a b, cs = [.d (.int a), .d (.int b)] ∧ Pos b ∧ R (.int (invF a b)) cs
def optI : Option Int → PyData
  | some x => .int x
  | none => .none
@[simp] theorem optI_some (x : Int) : optI (some x) = .int x := rfl
@[simp] theorem optI_none : optI none = .none := rfl
def sp_least_times : DSp := fun cs R => ∃ a b s, cs = [.d (.int a), .d (.int b), .d (.int s)] ∧ Pos a ∧ Pos b ∧ -BIG ≤ s ∧ s ≤ BIG ∧ R (optI (timesF a b s)) cs
/-- the axes that are not divided -/
def restsF (br bx : List Int) : List Nat := (List.range bx.length).filter fun i => !decide (gi bx i % gi br i = 0)
def sp_rests : DSp := fun cs R => ∃ br bx : List Int, cs = [.d (tI br), .d (tI bx)] ∧ bx.length ≤ br.length ∧ (∀ x ∈ br, 1 ≤ x) ∧ R (.list (lN (restsF br bx))) cs
/-- a pair and a box of one kind -/
structure PB (a b bx : List Int) : Prop where
  la : a.length = bx.length
  lb : b.length = bx.length
  l0 : 0 < bx.length
  l1 : bx.length ≤ 10
  pa : ∀ x ∈ a, Pos x
  pb : ∀ x ∈ b, Pos x
  px : ∀ x ∈ bx, Pos x
def barF (a b s : Int) (ax : Nat) : PyData := match timesF a b s with
  | none => .tuple [.str "step", .int (ax : Int)]
  | some t => if a * t - s > 0 then .tuple [.str "gap", .int (ax : Int), .int t, .int ((a * t - s) / b)] else .none
def barD (a b bx : List Int) (ax : Nat) : PyData := barF (gi a ax) (gi b ax) (gi bx ax) ax
def sp_bar_along : DSp := fun cs R => ∃ a b bx ax, cs = [.d (prD a b), .d (tI bx), .d (.int (ax : Nat))] ∧ PB a b bx ∧ ax < bx.length ∧ R (barD a b bx ax) cs
def crossF (a b bx : List Int) : List (Nat × Nat) := (restsF a bx).flatMap fun i => ((restsF b bx).filter fun j => !decide (i = j)).map fun j => (i, j)
def crD (p : Nat × Nat) : PyData := .tuple [.str "sides", .int (p.1 : Int), .int (p.2 : Int)]
def sp_crossing : DSp := fun cs R => ∃ a b bx, cs = [.d (prD a b), .d (tI bx)] ∧ PB a b bx ∧ R (.list ((crossF a b bx).map crD)) cs
def paperF (a b bx : List Int) : PyData :=
  if restsF a bx = [] then .tuple [.str "cut", .int 0, .int 0, .int (gi bx 0)]
  else if restsF b bx = [] then .tuple [.str "cut", .int 1, .int 0, .int (gi bx 0)]
  else match crossF a b bx with
    | p :: _ => crD p
    | [] => match (restsF a bx).headD 0 with
      | ax => match barD a b bx ax with
        | .none => .tuple [.str "cut", .int 0, .int (ax : Int), .int (gi a ax * (timesF (gi a ax) (gi b ax) (gi bx ax)).getD 0)]
        | d => d
def sp_paper : DSp := fun cs R => ∃ a b bx, cs = [.d (prD a b), .d (tI bx)] ∧ PB a b bx ∧ R (paperF a b bx) cs
/-- is a box filled -/
def fillB (a b bx : List Int) : Bool :=
  (restsF a bx).isEmpty || (restsF b bx).isEmpty || (decide (restsF a bx = restsF b bx) && decide ((restsF a bx).length = 1) && isSum (gi a ((restsF a bx).headD 0)) (gi b ((restsF a bx).headD 0)) (gi bx ((restsF a bx).headD 0)))
def sp_is_filled : DSp := fun cs R => ∃ a b bx, cs = [.d (prD a b), .d (tI bx)] ∧ PB a b bx ∧ R (.bool (fillB a b bx)) cs
def w_common_1 : DTS := (wPar2 0 1 (msCons (mE (wVar 1)) (msCons (mE (wOp pMod (wVar 0) (wVar 1))) msNil)))
def w_common : DTS := (wSeq (wWhile (wB (wOp pGt (wVar 1) (wC (.int 0)))) w_common_1) (wRet (wVar 0)))
def w_inverse_s1 : DTS := (wPar2 4 5 (msCons (mE (wOp pSubB (wVar 5) (wOp pMulT (wVar 6) (wVar 4)))) (msCons (mE (wVar 4)) msNil)))
@[simp ↓] theorem w_inverse_s1_ap (E : DEnds) (δ : DS) : w_inverse_s1 E δ = (wPar2 4 5 (msCons (mE (wOp pSubB (wVar 5) (wOp pMulT (wVar 6) (wVar 4)))) (msCons (mE (wVar 4)) msNil))) E δ := rfl
def w_inverse_s2 : DTS := (wSeq (wPar2 2 3 (msCons (mE (wOp pSubB (wVar 3) (wOp pMulT (wVar 6) (wVar 2)))) (msCons (mE (wVar 2)) msNil))) w_inverse_s1)
@[simp ↓] theorem w_inverse_s2_ap (E : DEnds) (δ : DS) : w_inverse_s2 E δ = (wSeq (wPar2 2 3 (msCons (mE (wOp pSubB (wVar 3) (wOp pMulT (wVar 6) (wVar 2)))) (msCons (mE (wVar 2)) msNil))) w_inverse_s1) E δ := rfl
def w_inverse_1 : DTS := (wSeq (wSet 6 (mE (wOp pDiv (wVar 3) (wVar 2)))) w_inverse_s2)
def w_inverse_s3 : DTS := (wSeq (wWhile (wB (wOp pGt (wVar 2) (wC (.int 0)))) w_inverse_1) (wRet (wOp pMod (wVar 5) (wVar 1))))
@[simp ↓] theorem w_inverse_s3_ap (E : DEnds) (δ : DS) : w_inverse_s3 E δ = (wSeq (wWhile (wB (wOp pGt (wVar 2) (wC (.int 0)))) w_inverse_1) (wRet (wOp pMod (wVar 5) (wVar 1)))) E δ := rfl
def w_inverse : DTS := (wSeq (wAsgG (wTup (wCons (wOp pMod (wVar 0) (wVar 1)) (wCons (wVar 1) (wCons (wC (.int 1)) (wCons (wC (.int 0)) wNil))))) (gT (gsCons (gN 2) (gsCons (gN 3) (gsCons (gN 4) (gsCons (gN 5) gsNil)))))) w_inverse_s3)
def w_least_times_t1 : DTS := (wRet (wOp pMod (wOp pMulT (wOp pDiv (wVar 2) (wVar 3)) (wCall [] sp_inverse (wCons (wOp pDiv (wVar 0) (wVar 3)) (wCons (wOp pDiv (wVar 1) (wVar 3)) wNil)))) (wOp pDiv (wVar 1) (wVar 3))))
def w_least_times_s1 : DTS := (wSeq (wIf (wB (wOp pNe (wOp pMod (wVar 2) (wVar 3)) (wC (.int 0)))) (wRet (wC .none)) wNext) w_least_times_t1)
@[simp ↓] theorem w_least_times_s1_ap (E : DEnds) (δ : DS) : w_least_times_s1 E δ = (wSeq (wIf (wB (wOp pNe (wOp pMod (wVar 2) (wVar 3)) (wC (.int 0)))) (wRet (wC .none)) wNext) w_least_times_t1) E δ := rfl
def w_least_times : DTS := (wSeq (wSet 3 (mE (wCall [] sp_common (wCons (wVar 0) (wCons (wVar 1) wNil))))) w_least_times_s1)
def w_rests : DTS := (wRet (wOfL (wComp (iEnumD (wCons (wVar 1) wNil)) (gT (gsCons (gN 2) (gsCons (gN 3) gsNil))) (wB (wOp pNe (wOp pMod (wVar 3) (wOp pIx (wVar 0) (wVar 2))) (wC (.int 0)))) (wVar 2) [2, 3])))
def w_bar_along_s1 : DTS := (wRet (wIfE (wB (wOp pGt (wVar 7) (wC (.int 0)))) (wTup (wCons (wC (.str "gap")) (wCons (wVar 2) (wCons (wVar 6) (wCons (wOp pDiv (wVar 7) (wVar 4)) wNil))))) (wC .none)))
@[simp ↓] theorem w_bar_along_s1_ap (E : DEnds) (δ : DS) : w_bar_along_s1 E δ = (wRet (wIfE (wB (wOp pGt (wVar 7) (wC (.int 0)))) (wTup (wCons (wC (.str "gap")) (wCons (wVar 2) (wCons (wVar 6) (wCons (wOp pDiv (wVar 7) (wVar 4)) wNil))))) (wC .none))) E δ := rfl
def w_bar_along_1 : DTS := (wRet (wTup (wCons (wC (.str "step")) (wCons (wVar 2) wNil))))
def w_bar_along_t1 : DTS := (wSeq (wSet 7 (mE (wOp pSubB (wOp pMulT (wVar 3) (wVar 6)) (wVar 5)))) w_bar_along_s1)
def w_bar_along_s2 : DTS := (wSeq (wIf (wB (wOp pIs (wVar 6) (wC .none))) w_bar_along_1 wNext) w_bar_along_t1)
@[simp ↓] theorem w_bar_along_s2_ap (E : DEnds) (δ : DS) : w_bar_along_s2 E δ = (wSeq (wIf (wB (wOp pIs (wVar 6) (wC .none))) w_bar_along_1 wNext) w_bar_along_t1) E δ := rfl
def w_bar_along_s3 : DTS := (wSeq (wSet 6 (mE (wCall [] sp_least_times (wCons (wVar 3) (wCons (wVar 4) (wCons (wVar 5) wNil)))))) w_bar_along_s2)
@[simp ↓] theorem w_bar_along_s3_ap (E : DEnds) (δ : DS) : w_bar_along_s3 E δ = (wSeq (wSet 6 (mE (wCall [] sp_least_times (wCons (wVar 3) (wCons (wVar 4) (wCons (wVar 5) wNil)))))) w_bar_along_s2) E δ := rfl
def w_bar_along : DTS := (wSeq (wPar3 3 4 5 (msCons (mE (wOp pIx (wOp pIx (wVar 0) (wC (.int 0))) (wVar 2))) (msCons (mE (wOp pIx (wOp pIx (wVar 0) (wC (.int 1))) (wVar 2))) (msCons (mE (wOp pIx (wVar 1) (wVar 2))) msNil)))) w_bar_along_s3)
def w_crossing_1 : DTS := (wExtend 2 (wOfL (wComp (iSeq (wCall [] sp_rests (wCons (wOp pIx (wVar 0) (wC (.int 1))) (wCons (wVar 1) wNil)))) (gN 4) (wB (wOp pNe (wVar 3) (wVar 4))) (wTup (wCons (wC (.str "sides")) (wCons (wVar 3) (wCons (wVar 4) wNil)))) [4])))
def w_crossing_s1 : DTS := (wSeq (wFor (iSeq (wCall [] sp_rests (wCons (wOp pIx (wVar 0) (wC (.int 0))) (wCons (wVar 1) wNil)))) (gN 3) w_crossing_1) (wRet (wVar 2)))
@[simp ↓] theorem w_crossing_s1_ap (E : DEnds) (δ : DS) : w_crossing_s1 E δ = (wSeq (wFor (iSeq (wCall [] sp_rests (wCons (wOp pIx (wVar 0) (wC (.int 0))) (wCons (wVar 1) wNil)))) (gN 3) w_crossing_1) (wRet (wVar 2))) E δ := rfl
def w_crossing : DTS := (wSeq (wSet 2 (mL (wLst wNil))) w_crossing_s1)
def w_paper_t1 : DTS := (wRet (wTup (wCons (wC (.str "cut")) (wCons (wC (.int 0)) (wCons (wVar 5) (wCons (wOp pMulT (wOp pIx (wOp pIx (wVar 0) (wC (.int 0))) (wVar 5)) (wCall [] sp_least_times (wCons (wOp pIx (wOp pIx (wVar 0) (wC (.int 0))) (wVar 5)) (wCons (wOp pIx (wOp pIx (wVar 0) (wC (.int 1))) (wVar 5)) (wCons (wOp pIx (wVar 1) (wVar 5)) wNil))))) wNil))))))
def w_paper_s1 : DTS := (wSeq (wIf (wB (wOp pIsNot (wVar 6) (wC .none))) (wRet (wVar 6)) wNext) w_paper_t1)
@[simp ↓] theorem w_paper_s1_ap (E : DEnds) (δ : DS) : w_paper_s1 E δ = (wSeq (wIf (wB (wOp pIsNot (wVar 6) (wC .none))) (wRet (wVar 6)) wNext) w_paper_t1) E δ := rfl
def w_paper_s2 : DTS := (wSeq (wSet 6 (mE (wCall [] sp_bar_along (wCons (wVar 0) (wCons (wVar 1) (wCons (wVar 5) wNil)))))) w_paper_s1)
@[simp ↓] theorem w_paper_s2_ap (E : DEnds) (δ : DS) : w_paper_s2 E δ = (wSeq (wSet 6 (mE (wCall [] sp_bar_along (wCons (wVar 0) (wCons (wVar 1) (wCons (wVar 5) wNil)))))) w_paper_s1) E δ := rfl
def w_paper_t2 : DTS := (wSeq (wSet 5 (mE (wOp pIx (wCall [] sp_rests (wCons (wOp pIx (wVar 0) (wC (.int 0))) (wCons (wVar 1) wNil))) (wC (.int 0))))) w_paper_s2)
def w_paper_s3 : DTS := (wSeq (wIf (wB (wOp pNe (wVar 4) (wOfL (wLst wNil)))) (wRet (wOp pIx (wVar 4) (wC (.int 0)))) wNext) w_paper_t2)
@[simp ↓] theorem w_paper_s3_ap (E : DEnds) (δ : DS) : w_paper_s3 E δ = (wSeq (wIf (wB (wOp pNe (wVar 4) (wOfL (wLst wNil)))) (wRet (wOp pIx (wVar 4) (wC (.int 0)))) wNext) w_paper_t2) E δ := rfl
def w_paper_3 : DTS := (wRet (wTup (wCons (wC (.str "cut")) (wCons (wVar 2) (wCons (wC (.int 0)) (wCons (wOp pIx (wVar 1) (wC (.int 0))) wNil))))))
def w_paper_4 : DTS := (wIf (wB (wOp pEq (wCall [] sp_rests (wCons (wVar 3) (wCons (wVar 1) wNil))) (wOfL (wLst wNil)))) w_paper_3 wNext)
def w_paper_t3 : DTS := (wSeq (wSet 4 (mE (wCall [] sp_crossing (wCons (wVar 0) (wCons (wVar 1) wNil))))) w_paper_s3)
def w_paper : DTS := (wSeq (wFor (iEnumD (wCons (wVar 0) wNil)) (gT (gsCons (gN 2) (gsCons (gN 3) gsNil))) w_paper_4) w_paper_t3)
def w_is_filled : DTS := (wRet (wOp pEq (wOp pIx (wCall [] sp_paper (wCons (wVar 0) (wCons (wVar 1) wNil))) (wC (.int 0))) (wC (.str "cut"))))
theorem ln_common : ∀ cs R, sp_common cs R → cs.length = 2 := by
  intro cs R h
  unfold sp_common at h
  repeat (obtain ⟨_, h⟩ := h)
  subst_vars; rfl
theorem ln_inverse : ∀ cs R, sp_inverse cs R → cs.length = 2 := by
  intro cs R h
  unfold sp_inverse at h
  repeat (obtain ⟨_, h⟩ := h)
  subst_vars; rfl
theorem ln_least_times : ∀ cs R, sp_least_times cs R → cs.length = 3 := by
  intro cs R h
  unfold sp_least_times at h
  repeat (obtain ⟨_, h⟩ := h)
  subst_vars; rfl
theorem ln_rests : ∀ cs R, sp_rests cs R → cs.length = 2 := by
  intro cs R h
  unfold sp_rests at h
  repeat (obtain ⟨_, h⟩ := h)
  subst_vars; rfl
theorem ln_bar_along : ∀ cs R, sp_bar_along cs R → cs.length = 3 := by
  intro cs R h
  unfold sp_bar_along at h
  repeat (obtain ⟨_, h⟩ := h)
  subst_vars; rfl
theorem ln_crossing : ∀ cs R, sp_crossing cs R → cs.length = 2 := by
  intro cs R h
  unfold sp_crossing at h
  repeat (obtain ⟨_, h⟩ := h)
  subst_vars; rfl
theorem ln_paper : ∀ cs R, sp_paper cs R → cs.length = 2 := by
  intro cs R h
  unfold sp_paper at h
  repeat (obtain ⟨_, h⟩ := h)
  subst_vars; rfl
theorem ln_is_filled : ∀ cs R, sp_is_filled cs R → cs.length = 2 := by
  intro cs R h
  unfold sp_is_filled at h
  repeat (obtain ⟨_, h⟩ := h)
  subst_vars; rfl
end TW
set_option Elab.async false
set_option linter.all false
set_option maxRecDepth 100000
set_option maxHeartbeats 4000000
namespace TW
open PySem PySem.Spec PyProof.Rows L2 DL
theorem rd_common : ∀ cs R, sp_common cs R → w_common (endsOf cs R) (start0 2 cs) := by
  rintro _ R ⟨a, b, rfl, ha, hb, hR⟩
  simp -implicitDefEqProofs -dsimp [w_common]
  refine while_plain (fun m δ => ∃ x y : Int, δ = [.d (.int x), .d (.int y)] ∧ 0 ≤ y ∧ 0 ≤ x ∧ y.toNat = m ∧ gcdI x y = gcdI a b) (fun δ => ∃ c1, δ = [.d (.int (gcdI a b)), .d c1]) b.toNat ⟨a, b, rfl, hb, ha, rfl, rfl⟩ ?_ ?_
  · rintro δ ⟨c1, rfl⟩
    (try simp -implicitDefEqProofs -dsimp)
    exact hR
  · rintro m δ ⟨x, y, rfl, h0, h1, rfl, hg⟩ K N T hK hN
    (try simp -implicitDefEqProofs -dsimp)
    split
    · rename_i hy
      simp -implicitDefEqProofs -dsimp [w_common_1]
      refine ⟨hy, hK (x % y).toNat _ ?_ ⟨y, x % y, rfl, Int.emod_nonneg _ (by omega), by omega, rfl, ?_⟩⟩
      · have := Int.emod_lt_of_pos x hy
        have := Int.emod_nonneg x (show y ≠ 0 by omega)
        omega
      · rw [gcd_step, hg]
    · rename_i hy
      have : y = 0 := by omega
      subst this
      have e : gcdI x 0 = x := by unfold gcdI; simp; omega
      refine hN _ ⟨.int 0, ?_⟩
      rw [← hg, e]
theorem abs_mul_le {q n : Int} (hq : 0 ≤ q) : (q * n).natAbs = q.toNat * n.natAbs := by
  rw [Int.natAbs_mul]; congr 1; omega
theorem rd_inverse : ∀ cs R, sp_inverse cs R → w_inverse (endsOf cs R) (start0 7 cs) := by
  rintro _ R ⟨a, b, rfl, ⟨hb0, hb1⟩, hR⟩
  have l0 : 0 ≤ a % b := Int.emod_nonneg _ (by omega)
  have l1 : a % b < b := Int.emod_lt_of_pos _ (by omega)
  simp -implicitDefEqProofs -dsimp [w_inverse]
  refine ⟨by omega, ?_⟩
  refine while_plain (fun m δ => ∃ (l r n t : Int) (c6 : Cell) (f : Nat), δ = [.d (.int a), .d (.int b), .d (.int l), .d (.int r), .d (.int n), .d (.int t), c6] ∧ 0 ≤ l ∧ 0 < r ∧ l < r ∧ r ≤ b ∧ n.natAbs * r.toNat + t.natAbs * l.toNat ≤ b.toNat ∧ l.toNat = m ∧ m < f ∧ invGo f l r n t = invGo (a % b).toNat.succ (a % b) b 1 0) (fun δ => ∃ c2 c3 c4 c6, δ = [.d (.int a), .d (.int b), c2, c3, c4, .d (.int (invGo (a % b).toNat.succ (a % b) b 1 0)), c6]) (a % b).toNat ⟨_, _, _, _, _, _, rfl, l0, by omega, by omega, by omega, by simp, rfl, by omega, rfl⟩ ?_ ?_
  · rintro δ ⟨c2, c3, c4, c6, rfl⟩
    (try simp -implicitDefEqProofs -dsimp)
    exact ⟨by omega, hR⟩
  · rintro m δ ⟨l, r, n, t, c6, f, rfl, h0, h1, h2, h3, h4, rfl, hf, hg⟩ K N T hK hN
    (try simp -implicitDefEqProofs -dsimp)
    obtain ⟨f, rfl⟩ : ∃ f', f = f' + 1 := ⟨f - 1, by omega⟩
    split
    · rename_i hl
      have q0 : 0 ≤ r / l := Int.ediv_nonneg (by omega) h0
      have q1 : r / l ≤ r := Int.ediv_le_self _ (by omega)
      have m0 := Int.emod_nonneg r (show l ≠ 0 by omega)
      have m1 := Int.emod_lt_of_pos r hl
      have e := sub_div r l
      have nb : n.natAbs ≤ b.toNat := by
        have : n.natAbs * 1 ≤ n.natAbs * r.toNat := Nat.mul_le_mul_left _ (by omega)
        omega
      have B := BIG_ge
      simp -implicitDefEqProofs -dsimp [w_inverse_1]
      refine ⟨div_big hl (by omega), mul_big (by omega) (by omega) (by omega) (by omega), mul_big (by omega) (by omega) (by omega) (by omega), hK (r % l).toNat _ (by omega) ⟨r - r / l * l, l, t - r / l * n, n, _, f, rfl, by omega, by omega, by omega, by omega, ?_, by rw [e], by omega, ?_⟩⟩
      · rw [e]
        have d1 : (t - r / l * n).natAbs ≤ t.natAbs + (r / l).toNat * n.natAbs := by
          have := abs_mul_le (n := n) q0
          omega
        have d2 := Nat.mul_le_mul_right l.toNat d1
        have d3 : r.toNat = l.toNat * (r / l).toNat + (r % l).toNat := by
          have := Int.mul_ediv_add_emod r l
          have h5 : ((l.toNat * (r / l).toNat : Nat) : Int) = l * (r / l) := by
            rw [Int.natCast_mul, Int.toNat_of_nonneg h0, Int.toNat_of_nonneg q0]
          omega
        have d4 : (t.natAbs + (r / l).toNat * n.natAbs) * l.toNat = t.natAbs * l.toNat + n.natAbs * (l.toNat * (r / l).toNat) := by
          rw [Nat.add_mul]
          congr 1
          rw [Nat.mul_comm (r / l).toNat, Nat.mul_assoc, Nat.mul_comm (r / l).toNat]
        have d5 : n.natAbs * r.toNat = n.natAbs * (l.toNat * (r / l).toNat) + n.natAbs * (r % l).toNat := by
          rw [d3, Nat.mul_add]
        omega
      · rw [← hg]
        show _ = if l > 0 then _ else _
        rw [if_pos hl]
    · rename_i hl
      have e : invGo (f + 1) l r n t = t := by
        show (if l > 0 then _ else _) = _
        rw [if_neg hl]
      rw [e] at hg
      exact hN _ ⟨_, _, _, _, by rw [hg]⟩
theorem gcd_div_pos {a b : Int} (ha : Pos a) (x : Int) (hd : gcdI a b ∣ x) (hx : Pos x) : Pos (x / gcdI a b) := by
  obtain ⟨g0, g1⟩ := gcd_le (b := b) ha.1
  obtain ⟨x0, x1⟩ := hx
  have e := Int.ediv_mul_cancel hd
  have l := Int.ediv_le_self (gcdI a b) (show 0 ≤ x by omega)
  have n := Int.ediv_nonneg (show 0 ≤ x by omega) (show 0 ≤ gcdI a b by omega)
  refine ⟨?_, by omega⟩
  have : x / gcdI a b ≠ 0 := fun z => by rw [z] at e; omega
  omega
theorem ediv_abs {x g : Int} (hg : 1 ≤ g) (h0 : -BIG ≤ x) (h1 : x ≤ BIG) : -BIG ≤ x / g ∧ x / g ≤ BIG := by
  have B := BIG_ge
  by_cases c : 0 ≤ x
  · have l := Int.ediv_le_self g c
    have n := Int.ediv_nonneg c (show 0 ≤ g by omega)
    omega
  · have n : x / g < 0 := Int.ediv_neg_of_neg_of_pos (by omega) (by omega)
    have : x ≤ x / g := by
      rw [Int.le_ediv_iff_mul_le (by omega)]
      have := Int.mul_le_mul_of_nonpos_left (show x ≤ 0 by omega) (show (1 : Int) ≤ g by omega)
      omega
    omega
theorem rd_least_times : ∀ cs R, sp_least_times cs R → w_least_times (endsOf cs R) (start0 4 cs) := by
  rintro _ R ⟨a, b, s, rfl, ha, hb, hs0, hs1, hR⟩
  obtain ⟨g0, g1⟩ := gcd_le (b := b) ha.1
  have qa := gcd_div_pos (b := b) ha a (gcd_dvd_l a b) ha
  have qb := gcd_div_pos (b := b) ha b (gcd_dvd_r a b) hb
  obtain ⟨i0, i1, _⟩ := inv_ok qb.1 (gcd_parts (b := b) ha.1)
  obtain ⟨a0, a1⟩ := ha
  obtain ⟨b0, b1⟩ := hb
  simp -implicitDefEqProofs -dsimp [w_least_times]
  refine ask_of ⟨a, b, rfl, by omega, by omega, ?_⟩
  (try simp -implicitDefEqProofs -dsimp)
  refine ⟨by omega, ?_⟩
  have lg := (div_big (j := gcdI a b) (by omega) (by omega)).2
  unfold timesF at hR
  split
  · rename_i h
    rw [if_neg (by simpa using h)] at hR
    simp -implicitDefEqProofs -dsimp [w_least_times_t1, lg]
    refine ⟨by omega, ask_of ⟨_, _, rfl, qb, ?_⟩⟩
    simp -implicitDefEqProofs -dsimp [lg]
    have := ediv_abs g0 hs0 hs1
    have B := BIG_ge
    have := qb.2
    exact ⟨mul_big (by omega) (by omega) (by omega) (by omega), by omega, by have := qb.1; omega, hR⟩
  · rename_i h
    rw [if_pos (by simpa using h)] at hR
    exact hR
theorem rd_rests : ∀ cs R, sp_rests cs R → w_rests (endsOf cs R) (start0 4 cs) := by
  rintro _ R ⟨br, bx, rfl, hl, hb, hR⟩
  simp -implicitDefEqProofs -dsimp [w_rests]
  refine com_map (List.range bx.length) _ (numbered_gi _) (fun i => if (!decide (gi bx i % gi br i = 0)) = true then some (.int (i : Nat)) else none) (fun i hi acc K hK => ?_) ?_
  · have hi := List.mem_range.mp hi
    have p := hb _ (gi_mem (ns := br) (i := i) (by omega))
    simp -implicitDefEqProofs -dsimp [gi_at (ns := br) (i := i) (by omega)]
    refine ⟨by omega, ?_⟩
    split
    · rename_i z
      simpa [z] using hK
    · rename_i z
      simpa [z] using hK
  · rw [fm_map]
    (try simp -implicitDefEqProofs -dsimp)
    exact hR
theorem PB.at {a b bx : List Int} (h : PB a b bx) {i : Nat} (hi : i < bx.length) : a[i]? = some (gi a i) ∧ b[i]? = some (gi b i) ∧ bx[i]? = some (gi bx i) ∧ Pos (gi a i) ∧ Pos (gi b i) ∧ Pos (gi bx i) :=
  have ha : i < a.length := by have := h.la; omega
  have hb : i < b.length := by have := h.lb; omega
  ⟨gi_at ha, gi_at hb, gi_at hi, h.pa _ (gi_mem ha), h.pb _ (gi_mem hb), h.px _ (gi_mem hi)⟩
theorem times_big {a b s t : Int} (ha : Pos a) (hb : Pos b) (h : timesF a b s = some t) : 0 ≤ t ∧ t ≤ BIG := by
  obtain ⟨_, t0, t1, _⟩ := times_some ha.1 hb.1 h
  obtain ⟨g0, _⟩ := gcd_le (b := b) ha.1
  have := Int.ediv_le_self (gcdI a b) (show 0 ≤ b by have := hb.1; omega)
  have := hb.2
  omega
theorem rd_bar_along : ∀ cs R, sp_bar_along cs R → w_bar_along (endsOf cs R) (start0 8 cs) := by
  rintro _ R ⟨a, b, bx, ax, rfl, h, hx, hR⟩
  obtain ⟨ea, eb, ex, qa, qb, qx⟩ := h.at hx
  unfold barD barF at hR
  simp -implicitDefEqProofs -dsimp [w_bar_along, ea, eb, ex]
  have B := BIG_ge
  have x0 := qx.1
  refine ask_of ⟨_, _, _, rfl, qa, qb, by omega, qx.2, ?_⟩
  cases ht : timesF (gi a ax) (gi b ax) (gi bx ax) with
  | none =>
    rw [ht] at hR
    simp -implicitDefEqProofs -dsimp [w_bar_along_1]
    exact hR
  | some t =>
    rw [ht] at hR
    have hR : R (if gi a ax * t - gi bx ax > 0 then .tuple [.str "gap", .int (ax : Int), .int t, .int ((gi a ax * t - gi bx ax) / gi b ax)] else .none) _ := hR
    obtain ⟨t0, t1⟩ := times_big qa qb ht
    simp -implicitDefEqProofs -dsimp [w_bar_along_t1]
    have a0 := qa.1
    have a1 := qa.2
    refine ⟨mul_big (by omega) (by omega) (by omega) (by omega), ?_⟩
    split
    · rename_i z
      rw [if_pos (show gi a ax * t - gi bx ax > 0 by omega)] at hR
      exact ⟨qb.div, hR⟩
    · rename_i z
      rw [if_neg (show ¬ gi a ax * t - gi bx ax > 0 by omega)] at hR
      exact hR
theorem mem_rests {a bx : List Int} {i : Nat} : i ∈ restsF a bx ↔ i < bx.length ∧ gi bx i % gi a i ≠ 0 := by
  unfold restsF
  rw [List.mem_filter, List.mem_range]; simp
theorem rests_len (a bx : List Int) : (restsF a bx).length ≤ bx.length := by
  unfold restsF
  exact Nat.le_trans (List.length_filter_le _ _) (by simp)
theorem rests_nodup (a bx : List Int) : (restsF a bx).Nodup := List.Pairwise.filter _ List.nodup_range
theorem rd_crossing : ∀ cs R, sp_crossing cs R → w_crossing (endsOf cs R) (start0 5 cs) := by
  rintro _ R ⟨a, b, bx, rfl, h, hR⟩
  simp -implicitDefEqProofs -dsimp [w_crossing]
  intro q
  refine ask_of (sp := sp_rests) ⟨a, bx, rfl, by have := h.la; omega, fun x hx => (h.pa x hx).1, ?_⟩
  (try simp -implicitDefEqProofs -dsimp)
  refine for_plain (restsF a bx) (fun (i : Nat) => PyData.int (i : Int)) rfl (fun rest δ => ∃ (c3 c4 : Cell) (done : List (Nat × Nat)), δ = [.d (prD a b), .d (tI bx), .ol q (done.map crD), c3, c4] ∧ done ++ (rest.flatMap fun i => ((restsF b bx).filter fun j => !decide (i = j)).map fun j => (i, j)) = crossF a b bx ∧ done.length + rest.length * 10 ≤ 100) ⟨_, _, [], rfl, rfl, ?_⟩ ?_ ?_
  · have := rests_len a bx
    have := h.l1
    simp; omega
  · rintro δ ⟨c3, c4, done, rfl, hd, _⟩
    have e : done = crossF a b bx := by simpa using hd
    subst e
    (try simp -implicitDefEqProofs -dsimp)
    exact hR
  · rintro i rest δ ⟨c3, c4, done, rfl, hd, hl⟩ K B T hK
    simp -implicitDefEqProofs -dsimp [w_crossing_1]
    refine ⟨⟨q, _, rfl⟩, ask_of (sp := sp_rests) ⟨b, bx, rfl, by have := h.lb; omega, fun x hx => (h.pb x hx).1, ?_⟩⟩
    (try simp -implicitDefEqProofs -dsimp)
    refine com_map (restsF b bx) (fun (j : Nat) => PyData.int (j : Int)) rfl (fun j => if (!decide (i = j)) = true then some (crD (i, j)) else none) (fun j hj acc K hK => ?_) ?_
    · (try simp -implicitDefEqProofs -dsimp)
      by_cases z : i = j
      · subst z
        simpa using hK
      · have z' : ¬ ((i : Int) = (j : Int)) := fun e => z (by omega)
        simp [z']
        simpa [z, crD] using hK
    · rw [fm_map]
      (try simp -implicitDefEqProofs -dsimp)
      have e : List.map (fun j => crD (i, j)) (List.filter (fun a => !decide (i = a)) (restsF b bx)) = (((restsF b bx).filter fun j => !decide (i = j)).map fun j => (i, j)).map crD := by
        rw [List.map_map]; simp [Function.comp_def]
      have l1 := Nat.le_trans (List.length_filter_le (fun j => !decide (i = j)) (restsF b bx)) (rests_len b bx)
      have l2 := h.l1
      simp only [List.length_cons] at hl
      refine ⟨?_, ?_⟩
      · omega
      · rw [e, ← List.map_append]
        refine hK _ ⟨_, _, done ++ _, rfl, ?_, ?_⟩
        · rw [← hd, List.flatMap_cons, List.append_assoc]
        · rw [List.length_append, List.length_map]; omega
theorem shaped_cr (ps : List (Nat × Nat)) : SeqAt.shaped (.list (ps.map crD)) = true := by
  have h1 : PyData.canLayAll0 (ps.map crD) = true := all_of (P := PyData.canLay0) (by simp [PyData.canLayAll0]) (by intros; simp [PyData.canLayAll0]) _ fun x hx => by
    obtain ⟨p, _, rfl⟩ := List.mem_map.mp hx
    simp [crD, PyData.canLay0, PyData.canLayAll0]
    decide +kernel
  have h2 : PyData.depthAll (ps.map crD) ≤ 1 := depthAll_le _ fun x hx => by
    obtain ⟨p, _, rfl⟩ := List.mem_map.mp hx
    simp [crD, PyData.depth, PyData.depthAll]
  simp [SeqAt.shaped, PyData.canLay0, PyData.depth, h1]
  omega
theorem eqv_cr (ps : List (Nat × Nat)) : PyData.eqvAll (ps.map crD) [] = ps.isEmpty := by
  cases ps <;> simp [PyData.eqvAll]
theorem rd_paper_t2 {a b bx : List Int} {R : PyData → List Cell → Prop} {c2 c3 c4 c5 c6 : Cell} (h : PB a b bx) (na : restsF a bx ≠ []) (nb : restsF b bx ≠ []) (nc : crossF a b bx = []) (hR : R (paperF a b bx) [.d (prD a b), .d (tI bx)]) :
    w_paper_t2 (endsOf [.d (prD a b), .d (tI bx)] R) [.d (prD a b), .d (tI bx), c2, c3, c4, c5, c6] := by
  obtain ⟨ax, rest, hr⟩ : ∃ ax rest, restsF a bx = ax :: rest := by
    cases hh : restsF a bx with
    | nil => exact absurd hh na
    | cons x xs => exact ⟨x, xs, rfl⟩
  have hax : ax < bx.length := (mem_rests.mp (by rw [hr]; exact List.mem_cons_self ..)).1
  obtain ⟨ea, eb, ex, qa, qb, qx⟩ := h.at hax
  unfold paperF at hR
  rw [if_neg na, if_neg nb, nc, hr] at hR
  simp -implicitDefEqProofs -dsimp [w_paper_t2]
  refine ask_of (sp := sp_rests) ⟨a, bx, rfl, by have := h.la; omega, fun x hx => (h.pa x hx).1, ?_⟩
  simp -implicitDefEqProofs -dsimp [hr]
  refine ask_of (sp := sp_bar_along) ⟨a, b, bx, ax, rfl, h, hax, ?_⟩
  have hR2 : R (match barD a b bx ax with
      | PyData.none => PyData.tuple [PyData.str "cut", PyData.int 0, PyData.int (ax : Int), PyData.int (gi a ax * (timesF (gi a ax) (gi b ax) (gi bx ax)).getD 0)]
      | d => d) [Cell.d (prD a b), Cell.d (tI bx)] := hR
  unfold barD barF at hR2 ⊢
  cases ht : timesF (gi a ax) (gi b ax) (gi bx ax) with
  | none =>
    simp only [ht] at hR2
    (try simp -implicitDefEqProofs -dsimp)
    exact hR2
  | some t =>
    simp only [ht] at hR2
    have x0 := qx.1
    have B := BIG_ge
    have a0 := qa.1
    have a1 := qa.2
    obtain ⟨t0, t1⟩ := times_big qa qb ht
    by_cases z : gi a ax * t - gi bx ax > 0
    · simp only [if_pos z] at hR2 ⊢
      (try simp -implicitDefEqProofs -dsimp)
      exact hR2
    · simp only [if_neg z] at hR2 ⊢
      simp -implicitDefEqProofs -dsimp [w_paper_t1, ea, eb, ex]
      refine ask_of (sp := sp_least_times) ⟨_, _, _, rfl, qa, qb, by omega, qx.2, ?_⟩
      simp -implicitDefEqProofs -dsimp [ht]
      exact ⟨mul_big (by omega) (by omega) (by omega) (by omega), by simpa using hR2⟩
theorem rd_paper_t3 {a b bx : List Int} {R : PyData → List Cell → Prop} {c2 c3 c4 c5 c6 : Cell} (h : PB a b bx) (na : restsF a bx ≠ []) (nb : restsF b bx ≠ []) (hR : R (paperF a b bx) [.d (prD a b), .d (tI bx)]) :
    w_paper_t3 (endsOf [.d (prD a b), .d (tI bx)] R) [.d (prD a b), .d (tI bx), c2, c3, c4, c5, c6] := by
  simp -implicitDefEqProofs -dsimp [w_paper_t3]
  refine ask_of (sp := sp_crossing) ⟨a, b, bx, rfl, h, ?_⟩
  simp -implicitDefEqProofs -dsimp [shaped_cr, eqv_cr, shaped_nil]
  split
  · rename_i z
    exact rd_paper_t2 h na nb z hR
  · rename_i z
    cases hc : crossF a b bx with
    | nil => exact absurd hc z
    | cons p ps =>
      unfold paperF at hR
      rw [if_neg na, if_neg nb, hc] at hR
      (try simp -implicitDefEqProofs -dsimp)
      exact hR
theorem rd_paper_4 {E : DEnds} {kind : Int} {br bx : List Int} {pr : PyData} {c4 c5 c6 : Cell} (hl : br.length = bx.length) (h0 : 0 < bx.length) (hb : ∀ x ∈ br, Pos x)
    (k0 : restsF br bx = [] → E.rt (.tuple [.str "cut", .int kind, .int 0, .int (gi bx 0)]) [.d pr, .d (tI bx), .d (.int kind), .d (tI br), c4, c5, c6])
    (k1 : restsF br bx ≠ [] → E.nx [.d pr, .d (tI bx), .d (.int kind), .d (tI br), c4, c5, c6]) :
    w_paper_4 E [.d pr, .d (tI bx), .d (.int kind), .d (tI br), c4, c5, c6] := by
  simp -implicitDefEqProofs -dsimp [w_paper_4]
  refine ask_of (sp := sp_rests) ⟨br, bx, rfl, by omega, fun x hx => (hb x hx).1, ?_⟩
  simp -implicitDefEqProofs -dsimp [shaped_nats, eqv_nats, shaped_nil]
  split
  · rename_i z
    have q := k0 z
    simp -implicitDefEqProofs -dsimp [w_paper_3, gi_at h0]
    exact q
  · rename_i z
    exact k1 z
theorem rd_paper_for {E : DEnds} {a b bx : List Int} {c2 c3 c4 c5 c6 : Cell} {u : Stop E} (h : PB a b bx)
    (k0 : restsF a bx = [] → ∀ c2 c3, E.rt (.tuple [.str "cut", .int 0, .int 0, .int (gi bx 0)]) [.d (prD a b), .d (tI bx), c2, c3, c4, c5, c6])
    (k1 : restsF a bx ≠ [] → restsF b bx = [] → ∀ c2 c3, E.rt (.tuple [.str "cut", .int 1, .int 0, .int (gi bx 0)]) [.d (prD a b), .d (tI bx), c2, c3, c4, c5, c6])
    (k2 : restsF a bx ≠ [] → restsF b bx ≠ [] → ∀ c2 c3, E.nx [.d (prD a b), .d (tI bx), c2, c3, c4, c5, c6]) :
    forC (gT (gsCons (gN 2) (gsCons (gN 3) gsNil))) w_paper_4 [.tuple [.int 0, tI a], .tuple [.int 1, tI b]] [.d (prD a b), .d (tI bx), c2, c3, c4, c5, c6] E u := by
  refine rd_paper_4 (kind := 0) h.la h.l0 h.pa (fun z => k0 z _ _) fun z => ?_
  exact rd_paper_4 (kind := 1) h.lb h.l0 h.pb (fun z2 => k1 z z2 _ _) fun z2 => k2 z z2 _ _
theorem rd_paper : ∀ cs R, sp_paper cs R → w_paper (endsOf cs R) (start0 7 cs) := by
  rintro _ R ⟨a, b, bx, rfl, h, hR⟩
  simp -implicitDefEqProofs -dsimp [w_paper, DL.numbered]
  refine rd_paper_for h (fun z c2 c3 => ?_) (fun na z c2 c3 => ?_) fun na nb c2 c3 => ?_
  · unfold paperF at hR
    rw [if_pos z] at hR
    exact ⟨trivial, hR⟩
  · unfold paperF at hR
    rw [if_neg na, if_pos z] at hR
    exact ⟨trivial, hR⟩
  · exact rd_paper_t3 h na nb hR
theorem bar_shape (a b bx : List Int) (ax : Nat) : barD a b bx ax = .none ∨ (∃ rest, barD a b bx ax = .tuple (.str "step" :: rest)) ∨ ∃ rest, barD a b bx ax = .tuple (.str "gap" :: rest) := by
  unfold barD barF
  split
  · exact .inr (.inl ⟨_, rfl⟩)
  · split
    · exact .inr (.inr ⟨_, rfl⟩)
    · exact .inl rfl
theorem bar_none {a b bx : List Int} {ax : Nat} : barD a b bx ax = .none ↔ isSum (gi a ax) (gi b ax) (gi bx ax) = true := by
  unfold barD barF isSum
  cases h : timesF (gi a ax) (gi b ax) (gi bx ax) with
  | none => simp
  | some t =>
    simp only [decide_eq_true_eq]
    by_cases c : gi a ax * t - gi bx ax > 0
    · rw [if_pos c]; simp; omega
    · rw [if_neg c]; simp; omega
theorem cross_nil {a b bx : List Int} (ha : restsF a bx ≠ []) (hb : restsF b bx ≠ []) : crossF a b bx = [] ↔ restsF a bx = restsF b bx ∧ (restsF a bx).length = 1 := by
  have na := rests_nodup a bx
  have nb := rests_nodup b bx
  unfold crossF
  revert ha hb na nb
  generalize restsF a bx = l
  generalize restsF b bx = m
  intro ha hb na nb
  constructor
  · intro h
    have e : ∀ i ∈ l, ∀ j ∈ m, i = j := fun i hi j hj => by
      have := (List.flatMap_eq_nil_iff.mp h) i hi
      rw [List.map_eq_nil_iff, List.filter_eq_nil_iff] at this
      have := this j hj
      simpa using this
    cases l with
    | nil => exact absurd rfl ha
    | cons i l =>
      cases m with
      | nil => exact absurd rfl hb
      | cons j m =>
        have hl : l = [] := by
          cases l with
          | nil => rfl
          | cons k l =>
            have h1 := e i (by simp) j (by simp)
            have h2 := e k (by simp) j (by simp)
            simp at na; omega
        have hm : m = [] := by
          cases m with
          | nil => rfl
          | cons k m =>
            have h1 := e i (by simp) j (by simp)
            have h2 := e i (by simp) k (by simp)
            simp at nb; omega
        subst hl hm
        have := e i (by simp) j (by simp)
        subst this
        exact ⟨rfl, rfl⟩
  · rintro ⟨rfl, h⟩
    cases l with
    | nil => cases h
    | cons i l =>
      cases l with
      | nil => simp
      | cons _ _ => simp at h
/-- the sort of a paper -/
theorem paper_fill (a b bx : List Int) : ∃ x rest, paperF a b bx = .tuple (.str x :: rest) ∧ decide (x = ("cut" : Str)) = fillB a b bx := by
  unfold paperF fillB
  by_cases ha : restsF a bx = []
  · rw [if_pos ha, ha]; exact ⟨_, _, rfl, by simp⟩
  rw [if_neg ha]
  by_cases hb : restsF b bx = []
  · rw [if_pos hb, hb]; exact ⟨_, _, rfl, by simp⟩
  rw [if_neg hb]
  have ea : (restsF a bx).isEmpty = false := by simpa using ha
  have eb : (restsF b bx).isEmpty = false := by simpa using hb
  rw [ea, eb]
  cases hc : crossF a b bx with
  | cons p ps =>
    have : ¬ (restsF a bx = restsF b bx ∧ (restsF a bx).length = 1) := fun h => by rw [← cross_nil ha hb, hc] at h; cases h
    refine ⟨_, _, rfl, ?_⟩
    have e : (decide (restsF a bx = restsF b bx) && decide ((restsF a bx).length = 1)) = false := by
      rw [Bool.and_eq_false_iff]
      simp only [decide_eq_false_iff_not]
      exact Classical.not_and_iff_not_or_not.mp this
    rw [e]; simp; decide +kernel
  | nil =>
    obtain ⟨h1, h2⟩ := (cross_nil ha hb).mp hc
    simp only [h1, h2, decide_true, Bool.true_and, Bool.false_or]
    rw [← h1]
    simp only [h2, decide_true, Bool.true_and]
    generalize (restsF a bx).headD 0 = ax
    by_cases hs : isSum (gi a ax) (gi b ax) (gi bx ax) = true
    · have := bar_none.mpr hs
      simp only [this]
      exact ⟨_, _, rfl, by simp [hs]⟩
    · have e : isSum (gi a ax) (gi b ax) (gi bx ax) = false := by simpa using hs
      rw [e]
      rcases bar_shape a b bx ax with h | ⟨rest, h⟩ | ⟨rest, h⟩
      · exact absurd (bar_none.mp h) hs
      · simp only [h]; exact ⟨_, _, rfl, by decide⟩
      · simp only [h]; exact ⟨_, _, rfl, by decide⟩
theorem rd_is_filled : ∀ cs R, sp_is_filled cs R → w_is_filled (endsOf cs R) (start0 2 cs) := by
  rintro _ R ⟨a, b, bx, rfl, h, hR⟩
  simp -implicitDefEqProofs -dsimp [w_is_filled]
  refine ask_of (sp := sp_paper) ⟨a, b, bx, rfl, h, ?_⟩
  obtain ⟨x, rest, e, e2⟩ := paper_fill a b bx
  rw [e]
  rw [← e2] at hR
  (try simp -implicitDefEqProofs -dsimp)
  exact hR
end TW
set_option Elab.async false
set_option linter.all false
set_option maxRecDepth 100000
set_option maxHeartbeats 4000000
namespace TW
open PySem PySem.Spec PyProof.Rows L2 DL
/-- a text of these signs -/
def tS (l : List Nat) : PyData := .str ⟨l.toArray⟩
def NumOk (n : Int) : Prop := 1 ≤ n ∧ n ≤ 10 ^ 12
def ends (l : List Nat) : Prop := ∀ c ∈ l.head?, c < 48 ∨ 57 < c
def sp_sides_text : DSp := fun cs R => ∃ ns : List Int, cs = [.d (tI ns)] ∧ ns.length ≤ 8 ∧ (∀ n ∈ ns, NumOk n) ∧ R (tS (sx ns)) cs
def sp_kinds_text : DSp := fun cs R => ∃ kss : List (List Int), cs = [.d (.tuple (kss.map tI))] ∧ kss.length ≤ 8 ∧ (∀ ns ∈ kss, ns.length ≤ 8 ∧ ∀ n ∈ ns, NumOk n) ∧ R (tS (kx kss)) cs
def sp_number_at : DSp := fun cs R => ∃ (pre : List Nat) (n : Int) (post : List Nat), cs = [.d (tS (pre ++ dg n.toNat ++ post)), .d (.int (pre.length : Int))] ∧ NumOk n ∧ ends post ∧ (pre ++ dg n.toNat ++ post).length ≤ 100000 ∧ R (.tuple [.int n, .int ((pre.length + (dg n.toNat).length : Nat) : Int)]) cs
def sp_sides_at : DSp := fun cs R => ∃ (pre : List Nat) (ns : List Int) (post : List Nat) (most : Int), cs = [.d (tS (pre ++ sx ns ++ post)), .d (.int (pre.length : Int)), .d (.int most)] ∧ 0 < ns.length ∧ ns.length ≤ 8 ∧ (ns.length : Int) ≤ most ∧ (∀ n ∈ ns, NumOk n) ∧ (ends post ∧ ∀ c ∈ post.head?, c ≠ 120) ∧ (pre ++ sx ns ++ post).length ≤ 100000 ∧ R (.tuple [tI ns, .int ((pre.length + (sx ns).length : Nat) : Int)]) cs
def sp_require_text : DSp := fun cs R => ∃ z : Str, cs = [.d (.str z)] ∧ R .none cs
def sp_parse_sides : DSp := fun cs R => ∃ ns : List Int, cs = [.d (tS (sx ns))] ∧ 0 < ns.length ∧ ns.length ≤ 4 ∧ (∀ n ∈ ns, NumOk n) ∧ R (tI ns) cs
def sp_parse_kinds : DSp := fun cs R => ∃ (m : Nat) (kss : List (List Int)), cs = [.d (tS (kx kss))] ∧ 0 < m ∧ m ≤ 4 ∧ 0 < kss.length ∧ kss.length ≤ 4 ∧ (∀ ns ∈ kss, ns.length = m ∧ ∀ n ∈ ns, NumOk n) ∧ R (.tuple (kss.map tI)) cs
def w_sides_text : DTS := (wRet (wJoinC "x" (wOfL (wComp (iSeq (wVar 0)) (gN 1) tT (wFn pStrB (wCons (wVar 1) wNil)) [1]))))
def w_kinds_text : DTS := (wRet (wJoinC " " (wOfL (wComp (iSeq (wVar 0)) (gN 1) tT (wCall [] sp_sides_text (wCons (wVar 1) wNil)) [1]))))
def w_number_at_1 : DTS := (wPar2 2 1 (msCons (mE (wOp pAddB (wOp pMulT (wVar 2) (wC (.int 10))) (wFn pInt (wCons (wOp pIx (wVar 0) (wVar 1)) wNil)))) (msCons (mE (wOp pAddB (wVar 1) (wC (.int 1)))) msNil)))
def w_number_at_t1 : DTS := (wRet (wTup (wCons (wVar 2) (wCons (wVar 1) wNil))))
def w_number_at_s1 : DTS := (wSeq (wWhile (wAnd (wB (wOp pLt (wVar 1) (wFn pLen (wCons (wVar 0) wNil)))) (wAnd (wB (wOp pIn (wOp pIx (wVar 0) (wVar 1)) (wC (.str "0123456789")))) (wB (wOp pLe (wOp pAddB (wOp pMulT (wVar 2) (wC (.int 10))) (wFn pInt (wCons (wOp pIx (wVar 0) (wVar 1)) wNil))) (wC (.int 1000000000000)))))) w_number_at_1) w_number_at_t1)
@[simp ↓] theorem w_number_at_s1_ap (E : DEnds) (δ : DS) : w_number_at_s1 E δ = (wSeq (wWhile (wAnd (wB (wOp pLt (wVar 1) (wFn pLen (wCons (wVar 0) wNil)))) (wAnd (wB (wOp pIn (wOp pIx (wVar 0) (wVar 1)) (wC (.str "0123456789")))) (wB (wOp pLe (wOp pAddB (wOp pMulT (wVar 2) (wC (.int 10))) (wFn pInt (wCons (wOp pIx (wVar 0) (wVar 1)) wNil))) (wC (.int 1000000000000)))))) w_number_at_1) w_number_at_t1) E δ := rfl
def w_number_at_t2 : DTS := (wSeq (wSet 2 (mE (wC (.int 0)))) w_number_at_s1)
def w_number_at : DTS := (wSeq (wIf (wOr (wB (wOp pEq (wVar 1) (wFn pLen (wCons (wVar 0) wNil)))) (wOr (wB (wOp pEq (wOp pIx (wVar 0) (wVar 1)) (wC (.str "0")))) (wB (wOp pNotIn (wOp pIx (wVar 0) (wVar 1)) (wC (.str "0123456789")))))) wNever wNext) w_number_at_t2)
def w_sides_at_1 : DTS := (wSeq (wAsgG (wCall [] sp_number_at (wCons (wVar 0) (wCons (wOp pAddB (wVar 1) (wC (.int 1))) wNil))) (gT (gsCons (gN 3) (gsCons (gN 1) gsNil)))) (wAppend 4 (wVar 3)))
def w_sides_at_t1 : DTS := (wRet (wTup (wCons (wFn pTupOf (wCons (wVar 4) wNil)) (wCons (wVar 1) wNil))))
def w_sides_at_s1 : DTS := (wSeq (wWhile (wAnd (wB (wOp pLt (wVar 1) (wFn pLen (wCons (wVar 0) wNil)))) (wAnd (wB (wOp pEq (wOp pIx (wVar 0) (wVar 1)) (wC (.str "x")))) (wB (wOp pLt (wFn pLen (wCons (wVar 4) wNil)) (wVar 2))))) w_sides_at_1) w_sides_at_t1)
@[simp ↓] theorem w_sides_at_s1_ap (E : DEnds) (δ : DS) : w_sides_at_s1 E δ = (wSeq (wWhile (wAnd (wB (wOp pLt (wVar 1) (wFn pLen (wCons (wVar 0) wNil)))) (wAnd (wB (wOp pEq (wOp pIx (wVar 0) (wVar 1)) (wC (.str "x")))) (wB (wOp pLt (wFn pLen (wCons (wVar 4) wNil)) (wVar 2))))) w_sides_at_1) w_sides_at_t1) E δ := rfl
def w_sides_at_s2 : DTS := (wSeq (wSet 4 (mL (wLst (wCons (wVar 3) wNil)))) w_sides_at_s1)
@[simp ↓] theorem w_sides_at_s2_ap (E : DEnds) (δ : DS) : w_sides_at_s2 E δ = (wSeq (wSet 4 (mL (wLst (wCons (wVar 3) wNil)))) w_sides_at_s1) E δ := rfl
def w_sides_at : DTS := (wSeq (wAsgG (wCall [] sp_number_at (wCons (wVar 0) (wCons (wVar 1) wNil))) (gT (gsCons (gN 3) (gsCons (gN 1) gsNil)))) w_sides_at_s2)
def w_require_text : DTS := (wIf (wNot (wB (wIsi "str" (wVar 0)))) wNever wNext)
def w_parse_sides_s1 : DTS := (wSeq (wIf (wB (wOp pLt (wVar 2) (wFn pLen (wCons (wVar 0) wNil)))) wNever wNext) (wRet (wVar 1)))
@[simp ↓] theorem w_parse_sides_s1_ap (E : DEnds) (δ : DS) : w_parse_sides_s1 E δ = (wSeq (wIf (wB (wOp pLt (wVar 2) (wFn pLen (wCons (wVar 0) wNil)))) wNever wNext) (wRet (wVar 1))) E δ := rfl
def w_parse_sides_s2 : DTS := (wSeq (wAsgG (wCall [] sp_sides_at (wCons (wVar 0) (wCons (wC (.int 0)) (wCons (wC (.int 4)) wNil)))) (gT (gsCons (gN 1) (gsCons (gN 2) gsNil)))) w_parse_sides_s1)
@[simp ↓] theorem w_parse_sides_s2_ap (E : DEnds) (δ : DS) : w_parse_sides_s2 E δ = (wSeq (wAsgG (wCall [] sp_sides_at (wCons (wVar 0) (wCons (wC (.int 0)) (wCons (wC (.int 4)) wNil)))) (gT (gsCons (gN 1) (gsCons (gN 2) gsNil)))) w_parse_sides_s1) E δ := rfl
def w_parse_sides : DTS := (wSeq (wDrop (wCall [] sp_require_text (wCons (wVar 0) wNil))) w_parse_sides_s2)
def w_parse_kinds_t1 : DTS := (wRet (wFn pTupOf (wCons (wVar 3) wNil)))
def w_parse_kinds_s1 : DTS := (wSeq (wIf (wB (wOp pLt (wFn pLen (wCons (wVar 4) wNil)) (wFn pLen (wCons (wVar 1) wNil)))) wNever wNext) (wAppend 3 (wVar 4)))
@[simp ↓] theorem w_parse_kinds_s1_ap (E : DEnds) (δ : DS) : w_parse_kinds_s1 E δ = (wSeq (wIf (wB (wOp pLt (wFn pLen (wCons (wVar 4) wNil)) (wFn pLen (wCons (wVar 1) wNil)))) wNever wNext) (wAppend 3 (wVar 4))) E δ := rfl
def w_parse_kinds_2 : DTS := (wSeq (wAsgG (wCall [] sp_sides_at (wCons (wVar 0) (wCons (wOp pAddB (wVar 2) (wC (.int 1))) (wCons (wFn pLen (wCons (wVar 1) wNil)) wNil)))) (gT (gsCons (gN 4) (gsCons (gN 2) gsNil)))) w_parse_kinds_s1)
def w_parse_kinds_t2 : DTS := (wSeq (wIf (wB (wOp pLt (wVar 2) (wFn pLen (wCons (wVar 0) wNil)))) wNever wNext) w_parse_kinds_t1)
def w_parse_kinds_s2 : DTS := (wSeq (wWhile (wAnd (wB (wOp pLt (wVar 2) (wFn pLen (wCons (wVar 0) wNil)))) (wAnd (wB (wOp pEq (wOp pIx (wVar 0) (wVar 2)) (wC (.str " ")))) (wB (wOp pLt (wFn pLen (wCons (wVar 3) wNil)) (wC (.int 4)))))) w_parse_kinds_2) w_parse_kinds_t2)
@[simp ↓] theorem w_parse_kinds_s2_ap (E : DEnds) (δ : DS) : w_parse_kinds_s2 E δ = (wSeq (wWhile (wAnd (wB (wOp pLt (wVar 2) (wFn pLen (wCons (wVar 0) wNil)))) (wAnd (wB (wOp pEq (wOp pIx (wVar 0) (wVar 2)) (wC (.str " ")))) (wB (wOp pLt (wFn pLen (wCons (wVar 3) wNil)) (wC (.int 4)))))) w_parse_kinds_2) w_parse_kinds_t2) E δ := rfl
def w_parse_kinds_s3 : DTS := (wSeq (wSet 3 (mL (wLst (wCons (wVar 1) wNil)))) w_parse_kinds_s2)
@[simp ↓] theorem w_parse_kinds_s3_ap (E : DEnds) (δ : DS) : w_parse_kinds_s3 E δ = (wSeq (wSet 3 (mL (wLst (wCons (wVar 1) wNil)))) w_parse_kinds_s2) E δ := rfl
def w_parse_kinds_s4 : DTS := (wSeq (wAsgG (wCall [] sp_sides_at (wCons (wVar 0) (wCons (wC (.int 0)) (wCons (wC (.int 4)) wNil)))) (gT (gsCons (gN 1) (gsCons (gN 2) gsNil)))) w_parse_kinds_s3)
@[simp ↓] theorem w_parse_kinds_s4_ap (E : DEnds) (δ : DS) : w_parse_kinds_s4 E δ = (wSeq (wAsgG (wCall [] sp_sides_at (wCons (wVar 0) (wCons (wC (.int 0)) (wCons (wC (.int 4)) wNil)))) (gT (gsCons (gN 1) (gsCons (gN 2) gsNil)))) w_parse_kinds_s3) E δ := rfl
def w_parse_kinds : DTS := (wSeq (wDrop (wCall [] sp_require_text (wCons (wVar 0) wNil))) w_parse_kinds_s4)
theorem ln_sides_text : ∀ cs R, sp_sides_text cs R → cs.length = 1 := by
  intro cs R h
  unfold sp_sides_text at h
  repeat (obtain ⟨_, h⟩ := h)
  subst_vars; rfl
theorem ln_kinds_text : ∀ cs R, sp_kinds_text cs R → cs.length = 1 := by
  intro cs R h
  unfold sp_kinds_text at h
  repeat (obtain ⟨_, h⟩ := h)
  subst_vars; rfl
theorem ln_number_at : ∀ cs R, sp_number_at cs R → cs.length = 2 := by
  intro cs R h
  unfold sp_number_at at h
  repeat (obtain ⟨_, h⟩ := h)
  subst_vars; rfl
theorem ln_sides_at : ∀ cs R, sp_sides_at cs R → cs.length = 3 := by
  intro cs R h
  unfold sp_sides_at at h
  repeat (obtain ⟨_, h⟩ := h)
  subst_vars; rfl
theorem ln_require_text : ∀ cs R, sp_require_text cs R → cs.length = 1 := by
  intro cs R h
  unfold sp_require_text at h
  repeat (obtain ⟨_, h⟩ := h)
  subst_vars; rfl
theorem ln_parse_sides : ∀ cs R, sp_parse_sides cs R → cs.length = 1 := by
  intro cs R h
  unfold sp_parse_sides at h
  repeat (obtain ⟨_, h⟩ := h)
  subst_vars; rfl
theorem ln_parse_kinds : ∀ cs R, sp_parse_kinds cs R → cs.length = 1 := by
  intro cs R h
  unfold sp_parse_kinds at h
  repeat (obtain ⟨_, h⟩ := h)
  subst_vars; rfl
end TW
set_option Elab.async false
set_option linter.all false
set_option maxRecDepth 100000
set_option maxHeartbeats 4000000
namespace TW
open PySem PySem.Spec PyProof.Rows L2 DL
theorem join_same (a : Str) (ys : List Str) : Txt.join a ys = Str.join a ys := PySem.StrLaws.glued_eq_join a ys
theorem sep_x : Str.ofString "x" = S [120] := by decide +kernel
theorem sep_b : Str.ofString " " = S [32] := by decide +kernel
theorem log_num {x : Int} (h : NumOk x) : x.natAbs.log2 < 1920 := by
  obtain ⟨h1, h2⟩ := h
  exact Nat.lt_of_lt_of_le (log_abs (B := 64) (by decide) (by omega) (by omega)) (by decide)
theorem dg_len13 {n : Int} (h : NumOk n) : (dg n.toNat).length ≤ 13 := by
  obtain ⟨h1, h2⟩ := h
  exact Nat.le_trans (dg_len 13 n.toNat (by omega)) (by decide)
theorem sx_len {ns : List Int} (h : ∀ n ∈ ns, NumOk n) : (sx ns).length ≤ ns.length * 14 := by
  have := glue_len (c := 120) (B := 13) (ls := ns.map fun n => dg n.toNat) fun l m => by
    obtain ⟨n, hm, rfl⟩ := List.mem_map.mp m
    exact dg_len13 (h n hm)
  rwa [List.length_map] at this
theorem rd_sides_text : ∀ cs R, sp_sides_text cs R → w_sides_text (endsOf cs R) (start0 2 cs) := by
  rintro _ R ⟨ns, rfl, hl, hn, hR⟩
  simp -implicitDefEqProofs -dsimp [w_sides_text, tI]
  refine com_map ns (fun x => .int x) rfl (fun x => some (.str (nS x))) (fun x hx acc K hK => ?_) ?_
  · have hx := hn x hx
    simp -implicitDefEqProofs -dsimp [text_rep (show 0 ≤ x by have := hx.1; omega)]
    exact ⟨log_num hx, hK⟩
  · have e : ns.filterMap (fun x => some (PyData.str (nS x))) = ((ns.map fun n => dg n.toNat).map S).map PyData.str := by simp [Function.comp_def, nS]
    have b := sum_len (B := 13) (ls := ns.map fun n => dg n.toNat) fun l m => by
      obtain ⟨n, hm, rfl⟩ := List.mem_map.mp m
      exact dg_len13 (hn n hm)
    have j := join_S 120 (ns.map fun n => dg n.toNat)
    rw [List.length_map] at b
    rw [e, sep_x]
    have ly : ((ns.map fun n => dg n.toNat).map S).length = ns.length := by simp
    generalize (ns.map fun n => dg n.toNat).map S = ys at *
    (try simp -implicitDefEqProofs -dsimp)
    have l1 : (S [120]).length = 1 := rfl
    refine ⟨by rw [ly, l1]; omega, ?_⟩
    rw [join_same, j]
    exact hR
theorem rd_kinds_text : ∀ cs R, sp_kinds_text cs R → w_kinds_text (endsOf cs R) (start0 2 cs) := by
  rintro _ R ⟨kss, rfl, hl, hn, hR⟩
  simp -implicitDefEqProofs -dsimp [w_kinds_text]
  refine com_map kss tI rfl (fun ns => some (tS (sx ns))) (fun ns hx acc K hK => ?_) ?_
  · (try simp -implicitDefEqProofs -dsimp)
    exact ask_of ⟨ns, rfl, (hn ns hx).1, (hn ns hx).2, by simp -implicitDefEqProofs -dsimp; exact hK⟩
  · have e : kss.filterMap (fun ns => some (tS (sx ns))) = ((kss.map sx).map S).map PyData.str := by simp [Function.comp_def, tS, S]
    have b := sum_len (B := 112) (ls := kss.map sx) fun l m => by
      obtain ⟨ns, hm, rfl⟩ := List.mem_map.mp m
      have := sx_len (hn ns hm).2
      have := (hn ns hm).1
      omega
    have j := join_S 32 (kss.map sx)
    rw [List.length_map] at b
    rw [e, sep_b]
    have ly : ((kss.map sx).map S).length = kss.length := by simp
    generalize (kss.map sx).map S = ys at *
    (try simp -implicitDefEqProofs -dsimp)
    have l1 : (S [32]).length = 1 := rfl
    refine ⟨by rw [ly, l1]; omega, ?_⟩
    rw [join_same, j]
    exact hR
theorem rd_require_text : ∀ cs R, sp_require_text cs R → w_require_text (endsOf cs R) (start0 1 cs) := by
  rintro _ R ⟨z, rfl, hR⟩
  simp -implicitDefEqProofs -dsimp [w_require_text]
  exact ⟨rfl, hR⟩
/-- a row of digits within a row of signs: what stands where -/
structure NumAt (L : List Nat) (a : Nat) (D : List Nat) : Prop where
  at_j : ∀ j (h : j < D.length), L[a + j]? = some D[j]
  le : a + D.length ≤ L.length
  nxt : a + D.length < L.length → ∃ c, L[a + D.length]? = some c ∧ (c < 48 ∨ 57 < c)
theorem numAt {pre D post : List Nat} (h : ends post) : NumAt (pre ++ D ++ post) pre.length D where
  at_j j h := by
    rw [List.append_assoc, List.getElem?_append_right (by omega), List.getElem?_append_left (by omega), List.getElem?_eq_getElem (by omega)]
    congr 2
    omega
  le := by simp
  nxt lt := by
    cases post with
    | nil => simp at lt
    | cons c r =>
      refine ⟨c, ?_, h c rfl⟩
      rw [List.getElem?_append_right (by simp), List.length_append, Nat.sub_self]
      rfl
theorem fig_memA (c : Nat) : c ∈ (Str.ofString "0123456789").cps ↔ (48 ≤ c ∧ c ≤ 57) := by rw [← fig_mem c, Array.mem_toList_iff]
theorem zero_S : (Str.ofString "0") = (⟨#[48]⟩ : Str) := by decide +kernel
theorem rd_number_at : ∀ cs R, sp_number_at cs R → w_number_at (endsOf cs R) (start0 3 cs) := by
  rintro _ R ⟨pre, n, post, rfl, ⟨n0, n1⟩, he, hl, hR⟩
  obtain ⟨c0, r0, e0, h0⟩ := dg_head n.toNat (by omega)
  have hd := dg_all n.toNat
  have hv := dg_val n.toNat
  have N := numAt (pre := pre) (D := dg n.toNat) he
  have hc0 : 48 ≤ c0 ∧ c0 ≤ 57 := hd c0 (by rw [e0]; simp)
  generalize pre ++ dg n.toNat ++ post = L at *
  generalize pre.length = a at *
  have a0 : L[a]? = some c0 := by have := N.at_j 0 (by rw [e0]; simp); simpa [e0] using this
  have lt : a < L.length := (List.getElem?_eq_some_iff.mp a0).1
  simp -implicitDefEqProofs -dsimp [w_number_at, tS, len_S, a0, zero_S, fig_mem]
  refine ⟨by omega, by omega, by omega, by omega, by omega, (fig_memA c0).mpr hc0, ?_⟩
  simp -implicitDefEqProofs -dsimp [w_number_at_t2, w_number_at_s1]
  generalize hD : dg n.toNat = D at *
  refine while_plain (fun m δ => ∃ j p v : Nat, m = D.length - j ∧ j ≤ D.length ∧ p = a + j ∧ v = NumText.digitsVal (D.take j) ∧ δ = [.d (.str ⟨L.toArray⟩), .d (.int (p : Int)), .d (.int (v : Int))])
    (fun δ => ∃ p : Nat, p = a + D.length ∧ δ = [.d (.str ⟨L.toArray⟩), .d (.int (p : Int)), .d (.int n)]) D.length ⟨0, a, 0, rfl, Nat.zero_le _, rfl, rfl, rfl⟩ ?_ ?_
  · rintro δ ⟨p, rfl, rfl⟩
    simp -implicitDefEqProofs -dsimp [w_number_at_t1]
    exact hR
  · rintro m δ ⟨j, p, v, rfl, hj, hp, hv', rfl⟩ K Nn T hK hN
    by_cases lt : j < D.length
    · have aj := N.at_j j lt
      rw [← hp] at aj
      have pl : p < L.length := (List.getElem?_eq_some_iff.mp aj).1
      have hc := hd D[j] (List.getElem_mem lt)
      have up := val_take D j lt
      have top := val_le D (j + 1)
      generalize D[j] = c at *
      simp -implicitDefEqProofs -dsimp [len_S, aj, fig_mem, w_number_at_1, one_digit hc]
      have v1 : v * 10 + (c - 48) ≤ n.toNat := by omega
      have cm : CMul (v : Int) 10 ∨ CMulW (v : Int) 10 := mul_big (by unfold BIG; omega) (by unfold BIG; omega) (by unfold BIG; omega) (by unfold BIG; omega)
      refine ⟨by omega, ?_⟩
      rw [if_pos pl]
      refine ⟨by omega, ?_⟩
      rw [if_pos ((fig_memA c).mpr hc)]
      refine ⟨cm, by omega, ?_⟩
      rw [if_pos (by omega)]
      refine ⟨cm, by omega, hK (D.length - (j + 1)) _ (by omega) ⟨j + 1, p + 1, v * 10 + (c - 48), rfl, lt, by omega, by omega, by push_cast; rfl⟩⟩
    · have e : j = D.length := by omega
      subst e
      have vn : (v : Int) = n := by rw [hv', List.take_length, hv]; omega
      have out := hN [.d (.str ⟨L.toArray⟩), .d (.int (p : Int)), .d (.int (v : Int))] ⟨p, hp, by rw [vn]⟩
      by_cases pl : p < L.length
      · obtain ⟨c, ac, hc⟩ := N.nxt (by omega)
        rw [← hp] at ac
        simp -implicitDefEqProofs -dsimp [len_S, ac, fig_mem]
        refine ⟨by omega, ?_⟩
        rw [if_pos pl]
        refine ⟨by omega, ?_⟩
        rw [if_neg fun z => by have := (fig_memA c).mp z; omega]
        exact out
      · simp -implicitDefEqProofs -dsimp [len_S]
        refine ⟨by omega, ?_⟩
        rw [if_neg pl]
        exact out
/-- the sides behind the first -/
def tl (ms : List Int) : List Nat := ms.flatMap fun m => 120 :: dg m.toNat
theorem sx_tl : ∀ (n : Int) (ms : List Int), sx (n :: ms) = dg n.toNat ++ tl ms
  | n, [] => by simp [sx, glue, tl]
  | n, m :: r => by
    have ih := sx_tl m r
    simp only [sx, List.map_cons, glue_cons] at ih ⊢
    rw [ih]
    simp [tl]
theorem tl_cons (m : Int) (r : List Int) : tl (m :: r) = 120 :: (dg m.toNat ++ tl r) := by simp [tl]
theorem ends_tl {post : List Nat} (h : ends post) : ∀ ms : List Int, ends (tl ms ++ post)
  | [] => by simpa [tl] using h
  | m :: r => by rw [tl_cons]; intro c hc; simp at hc; omega
theorem x_S : (Str.ofString "x") = (⟨#[120]⟩ : Str) := by decide +kernel
theorem b_S : (Str.ofString " ") = (⟨#[32]⟩ : Str) := by decide +kernel
theorem rd_sides_at : ∀ cs R, sp_sides_at cs R → w_sides_at (endsOf cs R) (start0 5 cs) := by
  rintro _ R ⟨pre, ns, post, most, rfl, l0, l8, lm, hn, ⟨he, hx⟩, hl, hR⟩
  obtain ⟨n, ms, rfl⟩ : ∃ n ms, ns = n :: ms := by cases ns with | nil => simp at l0 | cons n ms => exact ⟨n, ms, rfl⟩
  have ll : (pre ++ sx (n :: ms) ++ post).length = pre.length + (sx (n :: ms)).length + post.length := by simp; omega
  have hL2 : pre ++ sx (n :: ms) ++ post = pre ++ dg n.toNat ++ (tl ms ++ post) := by rw [sx_tl]; simp
  generalize hL : pre ++ sx (n :: ms) ++ post = L at *
  simp -implicitDefEqProofs -dsimp [w_sides_at]
  refine ask_of (sp := sp_number_at) ⟨pre, n, tl ms ++ post, by rw [hL2], hn n (by simp), ends_tl he ms, by rw [← hL2]; exact hl, ?_⟩
  simp -implicitDefEqProofs -dsimp [w_sides_at_s2]
  intro fa
  refine while_plain (fun m δ => ∃ (ds rs : List Int) (P : List Nat) (c3 : Int), n :: ms = ds ++ rs ∧ rs.length = m ∧ 0 < ds.length ∧ L = P ++ (tl rs ++ post) ∧ δ = [.d (tS L), .d (.int (P.length : Int)), .d (.int most), .d (.int c3), .ol fa (lI ds)])
    (fun δ => ∃ c3, δ = [.d (tS L), .d (.int ((pre.length + (sx (n :: ms)).length : Nat) : Int)), .d (.int most), c3, .ol fa (lI (n :: ms))]) ms.length
    ⟨[n], ms, pre ++ dg n.toNat, n, rfl, rfl, by simp, hL2, by simp [lI]⟩ ?_ ?_
  · rintro δ ⟨c3, rfl⟩
    simp -implicitDefEqProofs -dsimp [w_sides_at_t1]
    exact hR
  · rintro m δ ⟨ds, rs, P, c3, hds, rfl, d0, hP, rfl⟩ K Nn T hK hN
    have lds := congrArg List.length hds
    simp only [List.length_cons, List.length_append] at lds
    cases rs with
    | nil =>
      have ed : ds = n :: ms := by rw [hds]; simp
      have hP' : L = P ++ post := by rw [hP]; simp [tl]
      have lP : P.length = pre.length + (sx (n :: ms)).length := by
        have := congrArg List.length hP'
        simp only [List.length_append] at this
        omega
      have out := hN [.d (tS L), .d (.int (P.length : Int)), .d (.int most), .d (.int c3), .ol fa (lI ds)] ⟨_, by rw [ed, lP]⟩
      by_cases pl : P.length < L.length
      · obtain ⟨c, r, hc⟩ : ∃ c r, post = c :: r := by
          cases post with
          | nil => rw [hP'] at pl; simp at pl
          | cons c r => exact ⟨c, r, rfl⟩
        have ac : L[P.length]? = some c := by rw [hP', hc]; simp
        have cx : ¬ c = 120 := hx c (by rw [hc]; rfl)
        simp -implicitDefEqProofs -dsimp [tS, len_S, ac, x_S]
        refine ⟨by omega, ?_⟩
        rw [if_pos pl]
        refine ⟨by omega, ?_⟩
        rw [if_neg cx]
        exact out
      · simp -implicitDefEqProofs -dsimp [tS, len_S]
        refine ⟨by omega, ?_⟩
        rw [if_neg pl]
        exact out
    | cons r rs =>
      have hP' : L = (P ++ [120]) ++ dg r.toNat ++ (tl rs ++ post) := by rw [hP, tl_cons]; simp
      have ac : L[P.length]? = some 120 := by rw [hP, tl_cons]; simp
      have pl : P.length < L.length := (List.getElem?_eq_some_iff.mp ac).1
      simp -implicitDefEqProofs -dsimp [tS, len_S, ac, x_S]
      refine ⟨by omega, ?_⟩
      rw [if_pos pl]
      refine ⟨by omega, ?_⟩
      rw [if_pos (by simp only [List.length_cons] at lm lds; omega)]
      simp -implicitDefEqProofs -dsimp [w_sides_at_1]
      refine ask_of (sp := sp_number_at) ⟨P ++ [120], r, tl rs ++ post, by rw [← hP']; simp [tS], hn r (by rw [hds]; simp), ends_tl he rs, by rw [← hP']; exact hl, ?_⟩
      (try simp -implicitDefEqProofs -dsimp)
      refine ⟨⟨fa, _, rfl⟩, by simp only [List.length_cons] at l8 lds; omega, ?_⟩
      exact hK rs.length _ (by simp) ⟨ds ++ [r], rs, P ++ [120] ++ dg r.toNat, r, by rw [hds]; simp, rfl, by simp, hP', by simp [lI, tS]; omega⟩
theorem rd_parse_sides : ∀ cs R, sp_parse_sides cs R → w_parse_sides (endsOf cs R) (start0 3 cs) := by
  rintro _ R ⟨ns, rfl, l0, l4, hn, hR⟩
  have ln := sx_len hn
  simp -implicitDefEqProofs -dsimp [w_parse_sides]
  refine ask_of (sp := sp_require_text) ⟨⟨(sx ns).toArray⟩, rfl, ?_⟩
  simp -implicitDefEqProofs -dsimp [w_parse_sides_s2]
  refine ask_of (sp := sp_sides_at) ⟨[], ns, [], 4, by simp, l0, by omega, by omega, hn, ⟨fun c h => by simp at h, fun c h => by simp at h⟩, by simp; omega, ?_⟩
  simp -implicitDefEqProofs -dsimp [w_parse_sides_s1, tS, len_S]
  exact ⟨by omega, hR⟩
/-- the kinds behind the first -/
def kl (bs : List (List Int)) : List Nat := bs.flatMap fun b => 32 :: sx b
theorem kx_kl : ∀ (b : List Int) (bs : List (List Int)), kx (b :: bs) = sx b ++ kl bs
  | b, [] => by simp [kx, glue, kl]
  | b, c :: r => by
    have ih := kx_kl c r
    simp only [kx, List.map_cons, glue_cons] at ih ⊢
    rw [ih]
    simp [kl]
theorem kl_cons (b : List Int) (r : List (List Int)) : kl (b :: r) = 32 :: (sx b ++ kl r) := by simp [kl]
theorem ends_kl : ∀ bs : List (List Int), ends (kl bs) ∧ ∀ c ∈ (kl bs).head?, c ≠ 120
  | [] => ⟨fun c h => by simp [kl] at h, fun c h => by simp [kl] at h⟩
  | b :: r => by rw [kl_cons]; exact ⟨fun c h => by simp at h; omega, fun c h => by simp at h; omega⟩
theorem kl_len {B : Nat} : ∀ {bs : List (List Int)}, (∀ b ∈ bs, (sx b).length ≤ B) → (kl bs).length ≤ bs.length * (B + 1)
  | [], _ => by simp [kl]
  | b :: r, h => by
    have h1 := h b (by simp)
    have h2 := kl_len (bs := r) fun l m => h l (List.mem_cons_of_mem _ m)
    rw [kl_cons, List.length_cons, List.length_append, List.length_cons, Nat.succ_mul]
    omega
theorem rd_parse_kinds : ∀ cs R, sp_parse_kinds cs R → w_parse_kinds (endsOf cs R) (start0 5 cs) := by
  rintro _ R ⟨m, kss, rfl, m0, m4, k0, k4, hk, hR⟩
  obtain ⟨b, bs, rfl⟩ : ∃ b bs, kss = b :: bs := by cases kss with | nil => simp at k0 | cons b bs => exact ⟨b, bs, rfl⟩
  have hb := hk b (by simp)
  have lb : (kx (b :: bs)).length ≤ 1000 := by
    have l1 : ∀ c ∈ b :: bs, (sx c).length ≤ 56 := fun c hc => by have := sx_len (hk c hc).2; have := (hk c hc).1; omega
    have l2 := kl_len (bs := bs) fun c hc => l1 c (List.mem_cons_of_mem _ hc)
    have l3 := l1 b (by simp)
    rw [kx_kl, List.length_append]
    simp only [List.length_cons] at k4
    omega
  have hL2 : kx (b :: bs) = [] ++ sx b ++ kl bs := by rw [kx_kl]; simp
  generalize hL : kx (b :: bs) = L at *
  simp -implicitDefEqProofs -dsimp [w_parse_kinds]
  refine ask_of (sp := sp_require_text) ⟨⟨L.toArray⟩, rfl, ?_⟩
  simp -implicitDefEqProofs -dsimp [w_parse_kinds_s4]
  refine ask_of (sp := sp_sides_at) ⟨[], b, kl bs, 4, by rw [← hL2]; rfl, by omega, by omega, by omega, hb.2, ends_kl bs, by rw [← hL2]; omega, ?_⟩
  simp -implicitDefEqProofs -dsimp [w_parse_kinds_s3]
  intro fa
  refine while_plain (fun q δ => ∃ (ds rs : List (List Int)) (P : List Nat) (c4 : Cell), b :: bs = ds ++ rs ∧ rs.length = q ∧ 0 < ds.length ∧ L = P ++ kl rs ∧ δ = [.d (tS L), .d (tI b), .d (.int (P.length : Int)), .ol fa (ds.map tI), c4])
    (fun δ => ∃ c4, δ = [.d (tS L), .d (tI b), .d (.int (L.length : Int)), .ol fa ((b :: bs).map tI), c4]) bs.length
    ⟨[b], bs, sx b, .em, rfl, rfl, by simp, by rw [hL2]; simp, by simp⟩ ?_ ?_
  · rintro δ ⟨c4, rfl⟩
    simp -implicitDefEqProofs -dsimp [w_parse_kinds_t2, w_parse_kinds_t1, tS, len_S]
    exact ⟨by omega, hR⟩
  · rintro q δ ⟨ds, rs, P, c4, hds, rfl, d0, hP, rfl⟩ K Nn T hK hN
    have lds := congrArg List.length hds
    simp only [List.length_cons, List.length_append] at lds k4
    cases rs with
    | nil =>
      have ed : ds = b :: bs := by rw [hds]; simp
      have eP : L = P := by rw [hP]; simp [kl]
      have out := hN [.d (tS L), .d (tI b), .d (.int (P.length : Int)), .ol fa (ds.map tI), c4] ⟨c4, by rw [ed, ← eP]⟩
      simp -implicitDefEqProofs -dsimp [tS, len_S]
      refine ⟨by omega, ?_⟩
      rw [if_neg (by rw [eP]; omega)]
      exact out
    | cons r rs =>
      have hr := hk r (by rw [hds]; simp)
      have hP' : L = (P ++ [32]) ++ sx r ++ kl rs := by rw [hP, kl_cons]; simp
      have ac : L[P.length]? = some 32 := by rw [hP, kl_cons]; simp
      have pl : P.length < L.length := (List.getElem?_eq_some_iff.mp ac).1
      simp -implicitDefEqProofs -dsimp [tS, len_S, ac, b_S]
      refine ⟨by omega, ?_⟩
      rw [if_pos pl]
      refine ⟨by omega, ?_⟩
      rw [if_pos (by simp only [List.length_cons] at lds; omega)]
      simp -implicitDefEqProofs -dsimp [w_parse_kinds_2, tI]
      refine ask_of (sp := sp_sides_at) ⟨P ++ [32], r, kl rs, (b.length : Int), by rw [← hP']; simp [tS], by omega, by omega, by omega, hr.2, ends_kl rs, by rw [← hP']; omega, ?_⟩
      simp -implicitDefEqProofs -dsimp [w_parse_kinds_s1, tI]
      refine ⟨by omega, ⟨fa, _, rfl⟩, by omega, ?_⟩
      refine hK rs.length _ (by simp) ⟨ds ++ [r], rs, P ++ [32] ++ sx r, .d (tI r), by rw [hds]; simp, rfl, by simp, hP', ?_⟩
      have e : (((P ++ [32] ++ sx r).length : Nat) : Int) = (P.length : Int) + 1 + ((sx r).length : Int) := by simp; omega
      rw [e, List.map_append]
      rfl
end TW
set_option Elab.async false
set_option linter.all false
set_option maxRecDepth 100000
set_option maxHeartbeats 4000000
namespace TW
open PySem PySem.NumText DL
/-! ### which rows of signs are texts of sides, and beginnings of such -/
/-- a row taken apart at a sign; the word that is under way is at hand -/
def spA (c : Nat) (w : List Nat) : List Nat → List (List Nat)
  | [] => [w]
  | d :: r => if d = c then w :: spA c [] r else spA c (w ++ [d]) r
def spl (c : Nat) (l : List Nat) : List (List Nat) := spA c [] l
theorem spA_ne (c : Nat) : ∀ (l w : List Nat), spA c w l ≠ []
  | [], w => by simp [spA]
  | d :: r, w => by
    unfold spA
    split
    · simp
    · exact spA_ne c r _
theorem spA_free {c : Nat} : ∀ {v : List Nat} (w l : List Nat), c ∉ v → spA c w (v ++ l) = spA c (w ++ v) l
  | [], w, l, _ => by simp
  | d :: v, w, l, h => by
    have h1 : ¬ d = c := fun e => h (by simp [e])
    have h2 : c ∉ v := fun m => h (by simp [m])
    rw [List.cons_append, spA, if_neg h1, spA_free _ _ h2, List.append_assoc]
    rfl
theorem spl_glue {c : Nat} : ∀ {ws : List (List Nat)}, ws ≠ [] → (∀ w ∈ ws, c ∉ w) → spl c (glue c ws) = ws
  | [], h, _ => absurd rfl h
  | [a], _, h => by
    have := spA_free (c := c) (v := a) [] [] (h a (by simp))
    rw [List.append_nil] at this
    rw [spl, glue, this]
    rfl
  | a :: b :: r, _, h => by
    have ih := spl_glue (c := c) (ws := b :: r) (by simp) fun w m => h w (List.mem_cons_of_mem _ m)
    unfold spl at ih
    rw [spl, glue_cons, spA_free _ _ (h a (by simp)), List.nil_append, spA, if_pos rfl, ih]
theorem split_spl (c : Nat) (l : List Nat) : Txt.split (S l) (S [c]) = (spl c l).map S := by
  have hj := StrLaws.join_split (S l) (S [c])
  have hf : ∀ p ∈ Txt.split (S l) (S [c]), c ∉ p.cps.toList := StrLaws.split_free (S l) c
  have hn : Txt.split (S l) (S [c]) ≠ [] := fun e => by
    have := PyProof.Rows.split_len (S l) c
    rw [show (⟨#[c]⟩ : Str) = S [c] from rfl, e] at this
    have z : ∀ m : List Nat, 0 ≤ PyProof.Rows.cnt c m := fun m => by
      induction m with
      | nil => exact Int.le_of_eq (PyProof.Rows.cnt_nil c).symm
      | cons n r ih => rw [PyProof.Rows.cnt_cons]; split <;> omega
    have := z (S l).cps.toList
    simp only [List.length_nil] at *
    omega
  generalize Txt.split (S l) (S [c]) = ys at *
  have e : (ys.map fun y => y.cps.toList).map S = ys := by simp [S, Function.comp_def]
  rw [← e, join_S] at hj
  have g : glue c (ys.map fun y => y.cps.toList) = l := by
    have := congrArg (fun z : Str => z.cps.toList) hj
    simpa [S] using this
  have := spl_glue (c := c) (ws := ys.map fun y => y.cps.toList) (by simpa using hn) (by simpa using hf)
  rw [← g, this, e]
/-! words -/
def goodB (w : List Nat) : Bool := w.all (fun c => decide (48 ≤ c ∧ c ≤ 57)) && decide (w.headD 48 ≠ 48) && decide (digitsVal w ≤ 10 ^ 12)
def numB (w : List Nat) (b : Bool) : Bool := goodB w || (w.isEmpty && !b)
theorem goodB_iff {w : List Nat} : goodB w = true ↔ AllDigits w ∧ w.headD 48 ≠ 48 ∧ digitsVal w ≤ 10 ^ 12 := by
  simp only [goodB, Bool.and_eq_true, decide_eq_true_eq, List.all_eq_true, AllDigits]
  exact and_assoc
theorem goodB_ne {w : List Nat} (h : goodB w = true) : w ≠ [] := fun e => by subst e; exact absurd h (by decide)
theorem headD_app {w : List Nat} (c d : Nat) (h : w ≠ []) : (w ++ [c]).headD d = w.headD d := by cases w with | nil => exact absurd rfl h | cons a r => rfl
theorem goodB_snoc {w : List Nat} {c : Nat} : goodB (w ++ [c]) = true ↔ (w = [] ∧ 49 ≤ c ∧ c ≤ 57) ∨ (goodB w = true ∧ (48 ≤ c ∧ c ≤ 57) ∧ digitsVal w * 10 + (c - 48) ≤ 10 ^ 12) := by
  rw [goodB_iff, goodB_iff, digitsVal_snoc]
  have dd : AllDigits (w ++ [c]) ↔ AllDigits w ∧ (48 ≤ c ∧ c ≤ 57) := by
    simp only [AllDigits, List.mem_append, List.mem_singleton]
    exact ⟨fun h => ⟨fun d m => h d (.inl m), h c (.inr rfl)⟩, fun h d m => m.elim (h.1 d) fun e => e ▸ h.2⟩
  rw [dd]
  cases w with
  | nil =>
    simp [digitsVal, AllDigits]
    omega
  | cons a r =>
    rw [headD_app c 48 (by simp)]
    have p10 : (10 : Nat) ^ 12 = 1000000000000 := by decide
    constructor
    · rintro ⟨⟨h1, h2⟩, h3, h4⟩
      exact .inr ⟨⟨h1, h3, by omega⟩, h2, h4⟩
    · rintro (⟨h, _⟩ | ⟨⟨h1, h3, _⟩, h2, h4⟩)
      · simp at h
      · exact ⟨⟨h1, h2⟩, h3, h4⟩
theorem numB_snoc {w : List Nat} {c : Nat} (h : numB (w ++ [c]) false = true) : numB w false = true := by
  have g : goodB (w ++ [c]) = true := by simpa [numB] using h
  rcases goodB_snoc.mp g with ⟨rfl, _⟩ | ⟨g, _⟩
  · rfl
  · simp [numB, g]
theorem numB_beg {w : List Nat} {b : Bool} (h : numB w b = true) : numB w false = true := by
  simp only [numB, Bool.or_eq_true, Bool.and_eq_true] at h ⊢
  exact h.imp id fun x => ⟨x.1, rfl⟩
/-- the text of at most so many sides, or (b false) the beginning of one -/
def textB (k : Nat) (ws : List (List Nat)) (b : Bool) : Bool := decide (ws.length ≤ k) && ws.dropLast.all goodB && numB (ws.getLastD []) b
/-- the same, read from left to right: so many words more, the word under way -/
def aut (k : Nat) (w : List Nat) : List Nat → Bool → Bool
  | [], b => numB w b
  | c :: r, b => if c = 120 then goodB w && (decide (0 < k) && aut (k - 1) [] r b) else aut k (w ++ [c]) r b
theorem textB_cons {k : Nat} {w : List Nat} {ws : List (List Nat)} {b : Bool} (h : ws ≠ []) : textB (k + 1) (w :: ws) b = (goodB w && textB k ws b) := by
  obtain ⟨v, r, rfl⟩ := List.exists_cons_of_ne_nil h
  unfold textB
  have e1 : (w :: v :: r).dropLast = w :: (v :: r).dropLast := rfl
  have e2 : (w :: v :: r).getLastD [] = (v :: r).getLastD [] := by simp [List.getLastD]
  have e3 : ((w :: v :: r).length ≤ k + 1) = ((v :: r).length ≤ k) := by simp
  rw [e1, e2, List.all_cons]
  simp only [e3]
  cases goodB w <;> simp
theorem textB_zero {ws : List (List Nat)} {b : Bool} (h : ws ≠ []) : textB 0 ws b = false := by
  obtain ⟨v, r, rfl⟩ := List.exists_cons_of_ne_nil h
  simp [textB]
theorem textB_aut {b : Bool} : ∀ (L : List Nat) (k : Nat) (w : List Nat), textB (k + 1) (spA 120 w L) b = aut k w L b
  | [], k, w => by simp [spA, textB, aut]
  | c :: r, k, w => by
    unfold spA aut
    split
    · rw [textB_cons (spA_ne 120 r [])]
      cases k with
      | zero => rw [textB_zero (spA_ne 120 r [])]; simp
      | succ k => rw [textB_aut r k]; simp
    · exact textB_aut r k _
theorem aut_beg {b : Bool} : ∀ (L : List Nat) {k : Nat} {w : List Nat}, aut k w L b = true → numB w false = true
  | [], k, w, h => numB_beg h
  | c :: r, k, w, h => by
    unfold aut at h
    split at h
    · simp only [Bool.and_eq_true] at h
      simp [numB, h.1]
    · exact numB_snoc (aut_beg r h)
theorem aut_pre {b : Bool} (q : List Nat) : ∀ (p : List Nat) {k : Nat} {w : List Nat}, aut k w (p ++ q) b = true → aut k w p false = true
  | [], k, w, h => aut_beg q h
  | c :: r, k, w, h => by
    rw [List.cons_append] at h
    unfold aut at h ⊢
    split at h
    · rename_i e
      rw [if_pos e]
      simp only [Bool.and_eq_true] at h ⊢
      exact ⟨h.1, h.2.1, aut_pre q r h.2.2⟩
    · rename_i e
      rw [if_neg e]
      exact aut_pre q r h
theorem aut_free {b : Bool} {k : Nat} : ∀ {v : List Nat} (w l : List Nat), 120 ∉ v → aut k w (v ++ l) b = aut k (w ++ v) l b
  | [], w, l, _ => by simp
  | d :: v, w, l, h => by
    rw [List.cons_append, aut, if_neg (fun e => h (by simp [e])), aut_free _ _ fun m => h (by simp [m]), List.append_assoc]
    rfl
/-! what the program reads -/
def scan (v : Nat) : List Nat → Nat × List Nat
  | [] => (v, [])
  | c :: r => if (48 ≤ c ∧ c ≤ 57) ∧ v * 10 + (c - 48) ≤ 10 ^ 12 then scan (v * 10 + (c - 48)) r else (v, c :: r)
def numOf : List Nat → Option (Nat × List Nat)
  | [] => none
  | c :: r => if 49 ≤ c ∧ c ≤ 57 then some (scan (c - 48) r) else none
def sidesOf : Nat → List Nat → Option (List Int) × List Nat
  | 0, l => match numOf l with
    | none => (none, l)
    | some (n, r) => (some [(n : Int)], r)
  | k + 1, l => match numOf l with
    | none => (none, l)
    | some (n, r) => if r.head? = some 120 then ((sidesOf k r.tail).1.map ((n : Int) :: ·), (sidesOf k r.tail).2) else (some [(n : Int)], r)
theorem scan_good : ∀ (l : List Nat) {w : List Nat}, goodB w = true → ∃ d, l = d ++ (scan (digitsVal w) l).2 ∧ AllDigits d ∧ goodB (w ++ d) = true ∧ (scan (digitsVal w) l).1 = digitsVal (w ++ d) ∧ ∀ c r, (scan (digitsVal w) l).2 = c :: r → goodB (w ++ d ++ [c]) = false
  | [], w, g => ⟨[], rfl, fun _ h => by simp at h, by simpa using g, by simp [scan], fun c r h => by simp [scan] at h⟩
  | c :: r, w, g => by
    unfold scan
    by_cases h : (48 ≤ c ∧ c ≤ 57) ∧ digitsVal w * 10 + (c - 48) ≤ 10 ^ 12
    · rw [if_pos h]
      have g' : goodB (w ++ [c]) = true := goodB_snoc.mpr (.inr ⟨g, h⟩)
      have := scan_good r g'
      rw [digitsVal_snoc] at this
      obtain ⟨d, h1, h2, h3, h4, h5⟩ := this
      refine ⟨c :: d, by rw [List.cons_append, ← h1], fun x hx => ?_, by simpa using h3, by simpa using h4, fun x y e => by simpa using h5 x y e⟩
      rcases List.mem_cons.mp hx with rfl | m
      · exact h.1
      · exact h2 x m
    · rw [if_neg h]
      refine ⟨[], rfl, fun _ h => by simp at h, by simpa using g, by simp, fun x y e => ?_⟩
      simp only [List.cons.injEq] at e
      obtain ⟨rfl, rfl⟩ := e
      rw [List.append_nil]
      cases e : goodB (w ++ [c]) with
      | false => rfl
      | true =>
        rcases goodB_snoc.mp e with ⟨rfl, _⟩ | ⟨_, z⟩
        · exact absurd g (by decide)
        · exact absurd z h
theorem numOf_none {l : List Nat} (h : numOf l = none) : ∀ c r, l = c :: r → goodB [c] = false := by
  rintro c r rfl
  simp only [numOf] at h
  split at h
  · simp at h
  · rename_i z
    cases e : goodB [c] with
    | false => rfl
    | true =>
      rcases goodB_snoc (w := []) (c := c) |>.mp e with ⟨_, z'⟩ | ⟨z', _⟩
      · exact absurd z' z
      · exact absurd z' (by decide)
theorem numOf_some {l : List Nat} {n : Nat} {r : List Nat} (h : numOf l = some (n, r)) : ∃ w, l = w ++ r ∧ goodB w = true ∧ n = digitsVal w ∧ ∀ c q, r = c :: q → goodB (w ++ [c]) = false := by
  unfold numOf at h
  split at h
  · simp at h
  · rename_i c q
    split at h
    · rename_i z
      have g : goodB [c] = true := goodB_snoc (w := []) (c := c) |>.mpr (.inl ⟨rfl, z⟩)
      obtain ⟨d, h1, h2, h3, h4, h5⟩ := scan_good q g
      have e : digitsVal [c] = c - 48 := by simp [digitsVal]
      rw [e] at h1 h4 h5
      simp only [Option.some.injEq] at h
      rw [h] at h1 h4 h5
      exact ⟨c :: d, by rw [List.cons_append]; exact congrArg _ h1, h3, h4, h5⟩
    · simp at h
theorem good_x {w : List Nat} (h : goodB w = true) : 120 ∉ w := fun m => by have := (goodB_iff.mp h).1 120 m; omega
theorem good_num {w : List Nat} (h : goodB w = true) : 1 ≤ (digitsVal w : Int) ∧ (digitsVal w : Int) ≤ 10 ^ 12 := by
  obtain ⟨h1, h2, h3⟩ := goodB_iff.mp h
  have p10 : (10 : Nat) ^ 12 = 1000000000000 := by decide
  obtain ⟨c, r, rfl⟩ := List.exists_cons_of_ne_nil (goodB_ne h)
  have := h1 c (by simp)
  have := digitsVal_pos (c := c) (cs := r) (by simp at h2; omega)
  constructor <;> omega
/-- what the program reads agrees with the look from left to right -/
structure ReadS (k : Nat) (l : List Nat) (o : Option (List Int)) (r p : List Nat) : Prop where
  eq : l = p ++ r
  beg : aut k [] p false = true
  dead : ∀ c q, r = c :: q → aut k [] (p ++ [c]) false = false
  bad : o = none → aut k [] p true = false
  ok : ∀ ns, o = some ns → aut k [] p true = true ∧ (spl 120 p).map (fun w => (digitsVal w : Int)) = ns ∧ 1 ≤ ns.length ∧ ns.length ≤ k + 1 ∧ (∀ n ∈ ns, 1 ≤ n ∧ n ≤ 10 ^ 12)
theorem read_none (k : Nat) {l : List Nat} (h : numOf l = none) : ReadS k l none l [] where
  eq := rfl
  beg := rfl
  dead c q e := by
    show aut k [] [c] false = false
    unfold aut
    split
    · rfl
    · show numB [c] false = false
      simp [numB, numOf_none h c q e]
  bad _ := rfl
  ok _ h := by simp at h
theorem aut_word {k : Nat} {w : List Nat} {b : Bool} (l : List Nat) (h : goodB w = true) : aut k [] (w ++ l) b = aut k w l b := by
  rw [aut_free _ _ (good_x h), List.nil_append]
theorem spl_word {w : List Nat} (h : goodB w = true) : spl 120 w = [w] := by
  have := spA_free (c := 120) [] [] (good_x h)
  rw [List.append_nil] at this
  rw [spl, this]
  rfl
theorem read_last {k : Nat} {l r : List Nat} {n : Nat} (h : numOf l = some (n, r)) (he : k = 0 ∨ r.head? ≠ some 120) : ∃ p, ReadS k l (some [(n : Int)]) r p := by
  obtain ⟨w, rfl, g, rfl, hd⟩ := numOf_some h
  have a : ∀ b, aut k [] w b = true := fun b => by
    have := aut_word (k := k) (b := b) [] g
    rw [List.append_nil] at this
    rw [this]
    show numB w b = true
    simp [numB, g]
  refine ⟨w, rfl, a _, fun c q e => ?_, (fun h => by simp at h), fun ns e => ?_⟩
  · rw [aut_word _ g]
    unfold aut
    split
    · rename_i ec
      rcases he with rfl | he
      · simp
      · rw [e, ec] at he
        exact absurd rfl he
    · show numB (w ++ [c]) false = false
      simp [numB, hd c q e]
  · simp only [Option.some.injEq] at e
    subst e
    rw [spl_word g]
    exact ⟨a _, rfl, by simp, by simp, fun n m => by rw [List.mem_singleton.mp m]; exact good_num g⟩
theorem sides_read : ∀ (k : Nat) (l : List Nat), ∃ p, ReadS k l (sidesOf k l).1 (sidesOf k l).2 p
  | 0, l => by
    unfold sidesOf
    cases h : numOf l with
    | none => exact ⟨[], read_none 0 h⟩
    | some x => exact read_last h (.inl rfl)
  | k + 1, l => by
    unfold sidesOf
    cases h : numOf l with
    | none => exact ⟨[], read_none _ h⟩
    | some x =>
      obtain ⟨n, r⟩ := x
      by_cases e : r.head? = some 120
      · simp only [if_pos e]
        obtain ⟨q, rfl⟩ : ∃ q, r = 120 :: q := by
          cases r with
          | nil => simp at e
          | cons c q => simp at e; exact ⟨q, by rw [e]⟩
        obtain ⟨w, rfl, g, rfl, hd⟩ := numOf_some h
        obtain ⟨p, R⟩ := sides_read k q
        have a : ∀ (z : List Nat) (b : Bool), aut (k + 1) [] (w ++ 120 :: z) b = aut k [] z b := fun z b => by
          rw [aut_word _ g, aut, if_pos rfl, g]
          simp
        refine ⟨w ++ 120 :: p, ?_, ?_, fun c z hz => ?_, fun hn => ?_, fun ns hs => ?_⟩
        · show w ++ 120 :: q = w ++ 120 :: p ++ (sidesOf k q).2
          rw [List.append_assoc, List.cons_append, ← R.eq]
        · rw [a]; exact R.beg
        · rw [List.append_assoc, List.cons_append, a]
          exact R.dead c z hz
        · rw [a]
          exact R.bad (by simpa using hn)
        · obtain ⟨ms, hm, rfl⟩ : ∃ ms, (sidesOf k q).1 = some ms ∧ (digitsVal w : Int) :: ms = ns := by simpa using hs
          obtain ⟨h1, h2, h3, h4, h5⟩ := R.ok ms hm
          refine ⟨by rw [a]; exact h1, ?_, by simp, by simp; omega, fun n m => ?_⟩
          · rw [spl, spA_free _ _ (good_x g), List.nil_append, spA, if_pos rfl, List.map_cons]
            exact congrArg _ h2
          · rcases List.mem_cons.mp m with rfl | m
            · exact good_num g
            · exact h5 n m
      · simp only [if_neg e]
        exact read_last h (.inr e)
theorem spl_aut (k : Nat) (L : List Nat) (b : Bool) : textB (k + 1) (spl 120 L) b = aut k [] L b := textB_aut L k []
/-- the first place where a look fails -/
theorem first_bad {f : Nat → Bool} {n m : Nat} (h1 : ∀ k, k < m → f k = false) (h2 : m < n → f m = true) (h3 : m ≤ n) : ((List.range n).filter f ++ [n]).head? = some m := by
  rcases Nat.lt_or_eq_of_le h3 with lt | rfl
  · obtain ⟨j, rfl⟩ : ∃ j, n = m + (j + 1) := ⟨n - m - 1, by omega⟩
    rw [List.range_add, List.filter_append]
    have e : (List.range m).filter f = [] := List.filter_eq_nil_iff.mpr fun k hk => by simp [h1 k (List.mem_range.mp hk)]
    rw [e, List.nil_append, List.range_succ_eq_map, List.map_cons, List.filter_cons, Nat.add_zero, if_pos (h2 lt)]
    rfl
  · have e : (List.range m).filter f = [] := List.filter_eq_nil_iff.mpr fun k hk => by simp [h1 k (List.mem_range.mp hk)]
    rw [e]
    rfl
/-- what parse_sides tells: the sides, or the place -/
def readS (L : List Nat) : Option (List Int) := if (sidesOf 3 L).2 = [] then (sidesOf 3 L).1 else none
def badS (L : List Nat) : Nat := L.length - (sidesOf 3 L).2.length
theorem readS_ok {L : List Nat} {ns : List Int} (h : readS L = some ns) : textB 4 (spl 120 L) true = true ∧ (spl 120 L).map (fun w => (digitsVal w : Int)) = ns ∧ 1 ≤ ns.length ∧ ns.length ≤ 4 ∧ (∀ n ∈ ns, 1 ≤ n ∧ n ≤ 10 ^ 12) := by
  unfold readS at h
  split at h
  · rename_i e
    obtain ⟨p, R⟩ := sides_read 3 L
    have := R.eq
    rw [e, List.append_nil] at this
    subst this
    obtain ⟨h1, h2, h3, h4, h5⟩ := R.ok ns h
    exact ⟨by rw [spl_aut]; exact h1, h2, h3, h4, h5⟩
  · simp at h
theorem readS_bad {L : List Nat} (h : readS L = none) : textB 4 (spl 120 L) true = false ∧ ((List.range L.length).filter (fun k => !textB 4 (spl 120 (L.take (k + 1))) false) ++ [L.length]).head? = some (badS L) := by
  obtain ⟨p, R⟩ := sides_read 3 L
  have e := R.eq
  have lp : badS L = p.length := by
    have := congrArg List.length e
    rw [List.length_append] at this
    unfold badS
    omega
  constructor
  · rw [spl_aut]
    cases hr : (sidesOf 3 L).2 with
    | nil =>
      rw [hr, List.append_nil] at e
      have hb := R.bad (by simpa [readS, hr] using h)
      rw [← e] at hb
      exact hb
    | cons c q =>
      cases hx : aut 3 [] L true with
      | false => rfl
      | true =>
        rw [e, hr, show p ++ c :: q = (p ++ [c]) ++ q by simp] at hx
        have := aut_pre q _ hx
        rw [R.dead c q hr] at this
        simp at this
  · rw [lp]
    refine first_bad (fun k hk => ?_) (fun hk => ?_) (by have := congrArg List.length e; rw [List.length_append] at this; omega)
    · rw [spl_aut]
      have t : L.take (k + 1) = p.take (k + 1) := by
        rw [e, List.take_append_of_le_length (by omega)]
      have b := R.beg
      rw [← List.take_append_drop (k + 1) p] at b
      rw [t, aut_pre _ _ b]
      rfl
    · rw [spl_aut]
      cases hr : (sidesOf 3 L).2 with
      | nil => rw [hr, List.append_nil] at e; rw [e] at hk; omega
      | cons c q =>
        have t : L.take (p.length + 1) = p ++ [c] := by
          conv => lhs; rw [e, hr]
          rw [show p ++ c :: q = (p ++ [c]) ++ q by simp, List.take_append_of_le_length (by simp), List.take_of_length_le (by simp)]
        rw [t, R.dead c q hr]
        rfl
end TW
set_option Elab.async false
set_option linter.all false
set_option maxRecDepth 100000
set_option maxHeartbeats 4000000
namespace TW
open PySem PySem.Spec PyProof.Rows L2 DL
abbrev sp_Ldeck : DSpM := spDeck
abbrev sp_Ldraw : DSp := spDraw
def In (m : Int) (ns : List Int) : Prop := ∀ x ∈ ns, 1 ≤ x ∧ x ≤ m
def sp_Lone : DSp := fun cs R => ∃ a b c d xs, cs = [.dk a b c, .d d] ∧ seqOf d = some xs ∧ 0 < xs.length ∧ xs.length ≤ 1000000 ∧ ∀ x ∈ xs, R x [.dk a b c, .d d]
def sp_Lsides : DSp := fun cs R => ∃ a b c n m, cs = [.dk a b c, .d (.int n), .d (.int m)] ∧ 0 ≤ n ∧ n ≤ 1000 ∧ 0 < m ∧ m < 2 ^ 64 ∧ ∀ ns : List Int, ns.length = n.toNat → In m ns → R (tI ns) [.dk a b c, .d (.int n), .d (.int m)]
def sp_Lpair : DSp := fun cs R => ∃ a b c n m, cs = [.dk a b c, .d (.int n), .d (.int m)] ∧ 1 ≤ n ∧ n ≤ 1000 ∧ 0 < m ∧ m < 2 ^ 64 ∧ ∀ p q : List Int, p.length = n.toNat → q.length = n.toNat → In m p → In m q → R (prD p q) [.dk a b c, .d (.int n), .d (.int m)]
def lcmI (a b : Int) : Int := a * b / gcdI a b
def sp_Llcm : DSp := fun cs R => ∃ a b, cs = [.d (.int a), .d (.int b)] ∧ Pos a ∧ Pos b ∧ R (.int (lcmI a b)) cs
/-- the sides of a cut box -/
def IsCutBox (p q ns : List Int) (m : Int) : Prop := ns.length = p.length ∧ ∃ ax x y, ax < p.length ∧ 0 ≤ x ∧ x < m ∧ 1 ≤ y ∧ y ≤ m ∧ ∀ i, i < p.length → gi ns i = if i = ax then gi p i * x + gi q i * y else lcmI (gi p i) (gi q i)
def IsPlainBox (p ns : List Int) (m : Int) : Prop := ns.length = p.length ∧ ∀ i, i < p.length → ∃ k, 1 ≤ k ∧ k ≤ m ∧ gi ns i = gi p i * k
/-- two bricks of one kind -/
structure Pr (p q : List Int) : Prop where
  l : q.length = p.length
  l0 : 0 < p.length
  l1 : p.length ≤ 10
  p : ∀ x ∈ p, 1 ≤ x ∧ x < 2 ^ 60
  q : ∀ x ∈ q, 1 ≤ x ∧ x < 2 ^ 60
def sp_Lcut_box : DSp := fun cs R => ∃ a b c p q m, cs = [.dk a b c, .d (prD p q), .d (.int m)] ∧ Pr p q ∧ 0 < m ∧ m < 2 ^ 60 ∧ ∀ ns : List Int, IsCutBox p q ns m → R (tI ns) [.dk a b c, .d (prD p q), .d (.int m)]
def sp_Lplain_box : DSp := fun cs R => ∃ a b c p q m, cs = [.dk a b c, .d (prD p q), .d (.int m)] ∧ Pr p q ∧ 0 < m ∧ m < 2 ^ 60 ∧ ∀ ns : List Int, (IsPlainBox p ns m ∨ IsPlainBox q ns m) → R (tI ns) [.dk a b c, .d (prD p q), .d (.int m)]
def sp_Lrests : DSp := fun cs R => ∃ br bx : List Int, cs = [.d (tI br), .d (tI bx)] ∧ bx.length ≤ br.length ∧ bx.length ≤ 1000000 ∧ (∀ x ∈ br, 1 ≤ x) ∧ R (.list (lN (restsF br bx))) cs
def vol (ns : List Int) : Int := ns.foldl (fun a b => a * b) 1
def sp_Lvolume : DSp := fun cs R => ∃ ns : List Int, cs = [.d (tI ns)] ∧ (∀ x ∈ ns, -(2 ^ 64) < x ∧ x < 2 ^ 64) ∧ R (.int (vol ns)) cs
def sp_Lis_sum : DSp := fun cs R => ∃ s a b : Int, cs = [.d (.int s), .d (.int a), .d (.int b)] ∧ 0 ≤ s ∧ s < 2 ^ 60 ∧ 1 ≤ a ∧ a < 2 ^ 60 ∧ 1 ≤ b ∧ s / a < 999999 ∧ R (.bool (isSum a b s)) cs
def sp_Lis_filled : DSp := fun cs R => ∃ a b bx, cs = [.d (prD a b), .d (tI bx)] ∧ a.length = bx.length ∧ b.length = bx.length ∧ bx.length ≤ 1000 ∧ (∀ x ∈ a, 1 ≤ x ∧ x < 2 ^ 60) ∧ (∀ x ∈ b, 1 ≤ x) ∧ (∀ i, i < bx.length → 0 ≤ gi bx i ∧ gi bx i < 2 ^ 60 ∧ gi bx i / gi a i < 999999) ∧ R (.bool (fillB a b bx)) cs
def sp_Lbox : DSp := fun cs R => ∃ a b c p q m v, cs = [.dk a b c, .d (prD p q), .d (.int m), .d (.int v)] ∧ Pr p q ∧ (∀ x ∈ p, x < 2 ^ 20) ∧ (∀ x ∈ q, x < 2 ^ 20) ∧ 0 < m ∧ m < 2 ^ 60 ∧ 1 ≤ v ∧ ∀ ns : List Int, ns.length = p.length → In v ns → vol ns ≤ v → R (tI ns) [.dk a b c, .d (prD p q), .d (.int m), .d (.int v)]
def w_Lsides : DTS := (wRet (wFn pTupOf (wCons (wOfL (wComp (iRange1 (wCons (wVar 1) wNil)) (gN 3) tT (wOp pAddB (wC (.int 1)) (wCall [true, false] sp_Ldraw (wCons (wVar 0) (wCons (wVar 2) wNil)))) [3])) wNil)))
def w_Lpair_s1 : DTS := (wSet 4 (mE (wOp pAddB (wOp pAddB (wSl pSl (wVar 3) wNoP (wPart (wVar 5))) (wTup (wCons (wOp pAddB (wC (.int 1)) (wCall [true, false] sp_Ldraw (wCons (wVar 0) (wCons (wVar 2) wNil)))) wNil))) (wSl pSl (wVar 3) (wPart (wOp pAddB (wVar 5) (wC (.int 1)))) wNoP))))
@[simp ↓] theorem w_Lpair_s1_ap (E : DEnds) (δ : DS) : w_Lpair_s1 E δ = (wSet 4 (mE (wOp pAddB (wOp pAddB (wSl pSl (wVar 3) wNoP (wPart (wVar 5))) (wTup (wCons (wOp pAddB (wC (.int 1)) (wCall [true, false] sp_Ldraw (wCons (wVar 0) (wCons (wVar 2) wNil)))) wNil))) (wSl pSl (wVar 3) (wPart (wOp pAddB (wVar 5) (wC (.int 1)))) wNoP)))) E δ := rfl
def w_Lpair_1 : DTS := (wSeq (wSet 5 (mE (wCall [true, false] sp_Ldraw (wCons (wVar 0) (wCons (wVar 1) wNil))))) w_Lpair_s1)
def w_Lpair_t1 : DTS := (wRet (wTup (wCons (wVar 3) (wCons (wVar 4) wNil))))
def w_Lpair_s2 : DTS := (wSeq (wIf (wB (wOp pEq (wCall [true, false] sp_Ldraw (wCons (wVar 0) (wCons (wC (.int 3)) wNil))) (wC (.int 0)))) w_Lpair_1 wNext) w_Lpair_t1)
@[simp ↓] theorem w_Lpair_s2_ap (E : DEnds) (δ : DS) : w_Lpair_s2 E δ = (wSeq (wIf (wB (wOp pEq (wCall [true, false] sp_Ldraw (wCons (wVar 0) (wCons (wC (.int 3)) wNil))) (wC (.int 0)))) w_Lpair_1 wNext) w_Lpair_t1) E δ := rfl
def w_Lpair : DTS := (wSeq (wPar2 3 4 (msCons (mE (wCall [true, false, false] sp_Lsides (wCons (wVar 0) (wCons (wVar 1) (wCons (wVar 2) wNil))))) (msCons (mE (wCall [true, false, false] sp_Lsides (wCons (wVar 0) (wCons (wVar 1) (wCons (wVar 2) wNil))))) msNil))) w_Lpair_s2)
def w_Lis_sum : DTS := (wRet (wOp pNe (wOfL (wComp (iRange1 (wCons (wOp pAddB (wOp pDiv (wVar 0) (wVar 1)) (wC (.int 1))) wNil)) (gN 3) (wB (wOp pEq (wOp pMod (wFn pInt (wCons (wOp pSubB (wVar 0) (wOp pMulT (wVar 3) (wVar 1))) wNil)) (wVar 2)) (wC (.int 0)))) (wVar 3) [3])) (wOfL (wLst wNil))))
def w_Lrests : DTS := (wRet (wOfL (wComp (iRange1 (wCons (wFn pLen (wCons (wVar 1) wNil)) wNil)) (gN 2) (wB (wOp pNe (wOp pMod (wFn pInt (wCons (wOp pIx (wVar 1) (wVar 2)) wNil)) (wOp pIx (wVar 0) (wVar 2))) (wC (.int 0)))) (wVar 2) [2])))
def w_Lis_filled_t1 : DTS := (wRet (wCall [] sp_Lis_sum (wCons (wOp pIx (wVar 1) (wOp pIx (wVar 2) (wC (.int 0)))) (wCons (wOp pIx (wOp pIx (wVar 0) (wC (.int 0))) (wOp pIx (wVar 2) (wC (.int 0)))) (wCons (wOp pIx (wOp pIx (wVar 0) (wC (.int 1))) (wOp pIx (wVar 2) (wC (.int 0)))) wNil)))))
def w_Lis_filled_t2 : DTS := (wSeq (wIf (wOr (wB (wOp pGt (wFn pLen (wCons (wVar 2) wNil)) (wC (.int 1)))) (wB (wOp pNe (wVar 2) (wVar 3)))) (wRet (wC (.bool false))) wNext) w_Lis_filled_t1)
def w_Lis_filled_s1 : DTS := (wSeq (wIf (wOr (wB (wOp pEq (wVar 2) (wOfL (wLst wNil)))) (wB (wOp pEq (wVar 3) (wOfL (wLst wNil))))) (wRet (wC (.bool true))) wNext) w_Lis_filled_t2)
@[simp ↓] theorem w_Lis_filled_s1_ap (E : DEnds) (δ : DS) : w_Lis_filled_s1 E δ = (wSeq (wIf (wOr (wB (wOp pEq (wVar 2) (wOfL (wLst wNil)))) (wB (wOp pEq (wVar 3) (wOfL (wLst wNil))))) (wRet (wC (.bool true))) wNext) w_Lis_filled_t2) E δ := rfl
def w_Lis_filled : DTS := (wSeq (wPar2 2 3 (msCons (mE (wCall [] sp_Lrests (wCons (wOp pIx (wVar 0) (wC (.int 0))) (wCons (wVar 1) wNil)))) (msCons (mE (wCall [] sp_Lrests (wCons (wOp pIx (wVar 0) (wC (.int 1))) (wCons (wVar 1) wNil)))) msNil))) w_Lis_filled_s1)
def w_Lone : DTS := (wRet (wOp pIx (wVar 1) (wCall [true, false] sp_Ldraw (wCons (wVar 0) (wCons (wFn pLen (wCons (wVar 1) wNil)) wNil)))))
def w_Lvolume_1 : DTS := (wSet 1 (mE (wOp pMulT (wVar 1) (wVar 2))))
def w_Lvolume_s1 : DTS := (wSeq (wFor (iSeq (wVar 0)) (gN 2) w_Lvolume_1) (wRet (wVar 1)))
@[simp ↓] theorem w_Lvolume_s1_ap (E : DEnds) (δ : DS) : w_Lvolume_s1 E δ = (wSeq (wFor (iSeq (wVar 0)) (gN 2) w_Lvolume_1) (wRet (wVar 1))) E δ := rfl
def w_Lvolume : DTS := (wSeq (wSet 1 (mE (wC (.int 1)))) w_Lvolume_s1)
def w_Llcm : DTS := (wRet (wOp pDiv (wOp pMulT (wVar 0) (wVar 1)) (wCall [] sp_common (wCons (wVar 0) (wCons (wVar 1) wNil)))))
def w_Lcut_box_s1 : DTS := (wRet (wFn pTupOf (wCons (wVar 4) wNil)))
@[simp ↓] theorem w_Lcut_box_s1_ap (E : DEnds) (δ : DS) : w_Lcut_box_s1 E δ = (wRet (wFn pTupOf (wCons (wVar 4) wNil))) E δ := rfl
def w_Lcut_box_1 : DTS := (wAppend 4 (wCall [] sp_Llcm (wCons (wOp pIx (wOp pIx (wVar 1) (wC (.int 0))) (wVar 5)) (wCons (wOp pIx (wOp pIx (wVar 1) (wC (.int 1))) (wVar 5)) wNil))))
def w_Lcut_box_t1 : DTS := (wSeq (wPut 4 (wOp pAddB (wOp pMulT (wOp pIx (wOp pIx (wVar 1) (wC (.int 0))) (wVar 3)) (wCall [true, false] sp_Ldraw (wCons (wVar 0) (wCons (wVar 2) wNil)))) (wOp pMulT (wOp pIx (wOp pIx (wVar 1) (wC (.int 1))) (wVar 3)) (wOp pAddB (wC (.int 1)) (wCall [true, false] sp_Ldraw (wCons (wVar 0) (wCons (wVar 2) wNil)))))) (wVar 3)) w_Lcut_box_s1)
def w_Lcut_box_s2 : DTS := (wSeq (wFor (iRange1 (wCons (wFn pLen (wCons (wOp pIx (wVar 1) (wC (.int 0))) wNil)) wNil)) (gN 5) w_Lcut_box_1) w_Lcut_box_t1)
@[simp ↓] theorem w_Lcut_box_s2_ap (E : DEnds) (δ : DS) : w_Lcut_box_s2 E δ = (wSeq (wFor (iRange1 (wCons (wFn pLen (wCons (wOp pIx (wVar 1) (wC (.int 0))) wNil)) wNil)) (gN 5) w_Lcut_box_1) w_Lcut_box_t1) E δ := rfl
def w_Lcut_box : DTS := (wSeq (wPar2 3 4 (msCons (mE (wCall [true, false] sp_Ldraw (wCons (wVar 0) (wCons (wFn pLen (wCons (wOp pIx (wVar 1) (wC (.int 0))) wNil)) wNil)))) (msCons (mL (wLst wNil)) msNil))) w_Lcut_box_s2)
def w_Lplain_box_s1 : DTS := (wRet (wFn pTupOf (wCons (wOfL (wComp (iSeq (wVar 3)) (gN 4) tT (wOp pMulT (wVar 4) (wOp pAddB (wC (.int 1)) (wCall [true, false] sp_Ldraw (wCons (wVar 0) (wCons (wVar 2) wNil))))) [4])) wNil)))
@[simp ↓] theorem w_Lplain_box_s1_ap (E : DEnds) (δ : DS) : w_Lplain_box_s1 E δ = (wRet (wFn pTupOf (wCons (wOfL (wComp (iSeq (wVar 3)) (gN 4) tT (wOp pMulT (wVar 4) (wOp pAddB (wC (.int 1)) (wCall [true, false] sp_Ldraw (wCons (wVar 0) (wCons (wVar 2) wNil))))) [4])) wNil))) E δ := rfl
def w_Lplain_box : DTS := (wSeq (wSet 3 (mE (wCall [true, false] sp_Lone (wCons (wVar 0) (wCons (wOfL (wFnL pLstOf (wCons (wVar 1) wNil))) wNil))))) w_Lplain_box_s1)
def w_Lbox_s1 : DTS := (wSet 6 (mE (wOp pAddB (wOp pAddB (wSl pSl (wVar 8) wNoP (wPart (wVar 7))) (wTup (wCons (wFn pMax2 (wCons (wC (.int 1)) (wCons (wOp pAddB (wOp pIx (wVar 8) (wVar 7)) (wCall [true, false] sp_Lone (wCons (wVar 0) (wCons (wOfL (wLst (wCons (wUn pNeg (wC (.int 1))) (wCons (wC (.int 1)) (wCons (wC (.int 2)) wNil))))) wNil)))) wNil))) wNil))) (wSl pSl (wVar 8) (wPart (wOp pAddB (wVar 7) (wC (.int 1)))) wNoP))))
@[simp ↓] theorem w_Lbox_s1_ap (E : DEnds) (δ : DS) : w_Lbox_s1 E δ = (wSet 6 (mE (wOp pAddB (wOp pAddB (wSl pSl (wVar 8) wNoP (wPart (wVar 7))) (wTup (wCons (wFn pMax2 (wCons (wC (.int 1)) (wCons (wOp pAddB (wOp pIx (wVar 8) (wVar 7)) (wCall [true, false] sp_Lone (wCons (wVar 0) (wCons (wOfL (wLst (wCons (wUn pNeg (wC (.int 1))) (wCons (wC (.int 1)) (wCons (wC (.int 2)) wNil))))) wNil)))) wNil))) wNil))) (wSl pSl (wVar 8) (wPart (wOp pAddB (wVar 7) (wC (.int 1)))) wNoP)))) E δ := rfl
def w_Lbox_s2 : DTS := (wSeq (wSet 8 (mE (wCall [true, false] sp_Lone (wCons (wVar 0) (wCons (wOfL (wLst (wCons (wCall [true, false, false] sp_Lcut_box (wCons (wVar 0) (wCons (wVar 1) (wCons (wC (.int 3)) wNil)))) (wCons (wCall [true, false, false] sp_Lplain_box (wCons (wVar 0) (wCons (wVar 1) (wCons (wC (.int 3)) wNil)))) wNil)))) wNil))))) w_Lbox_s1)
@[simp ↓] theorem w_Lbox_s2_ap (E : DEnds) (δ : DS) : w_Lbox_s2 E δ = (wSeq (wSet 8 (mE (wCall [true, false] sp_Lone (wCons (wVar 0) (wCons (wOfL (wLst (wCons (wCall [true, false, false] sp_Lcut_box (wCons (wVar 0) (wCons (wVar 1) (wCons (wC (.int 3)) wNil)))) (wCons (wCall [true, false, false] sp_Lplain_box (wCons (wVar 0) (wCons (wVar 1) (wCons (wC (.int 3)) wNil)))) wNil)))) wNil))))) w_Lbox_s1) E δ := rfl
def w_Lbox_1 : DTS := (wSeq (wSet 7 (mE (wCall [true, false] sp_Ldraw (wCons (wVar 0) (wCons (wFn pLen (wCons (wVar 6) wNil)) wNil))))) w_Lbox_s2)
def w_Lbox_t1 : DTS := (wIf (wB (wOp pLe (wCall [] sp_Lvolume (wCons (wVar 6) wNil)) (wVar 3))) (wRet (wVar 6)) wNext)
def w_Lbox_3 : DTS := (wSet 6 (mE (wCall [true, false, false] sp_Lplain_box (wCons (wVar 0) (wCons (wVar 1) (wCons (wC (.int 3)) wNil))))))
def w_Lbox_t2 : DTS := (wSeq (wIf (wB (wOp pEq (wVar 5) (wC (.int 2)))) w_Lbox_1 wNext) w_Lbox_t1)
def w_Lbox_5 : DTS := (wSet 6 (mE (wCall [true, false, false] sp_Lcut_box (wCons (wVar 0) (wCons (wVar 1) (wCons (wC (.int 3)) wNil))))))
def w_Lbox_t3 : DTS := (wSeq (wIf (wB (wOp pEq (wVar 5) (wC (.int 1)))) w_Lbox_3 wNext) w_Lbox_t2)
def w_Lbox_s3 : DTS := (wSeq (wIf (wB (wOp pEq (wVar 5) (wC (.int 0)))) w_Lbox_5 wNext) w_Lbox_t3)
@[simp ↓] theorem w_Lbox_s3_ap (E : DEnds) (δ : DS) : w_Lbox_s3 E δ = (wSeq (wIf (wB (wOp pEq (wVar 5) (wC (.int 0)))) w_Lbox_5 wNext) w_Lbox_t3) E δ := rfl
def w_Lbox_s4 : DTS := (wSeq (wSet 6 (mE (wCall [true, false, false] sp_Lsides (wCons (wVar 0) (wCons (wFn pLen (wCons (wOp pIx (wVar 1) (wC (.int 0))) wNil)) (wCons (wVar 2) wNil)))))) w_Lbox_s3)
@[simp ↓] theorem w_Lbox_s4_ap (E : DEnds) (δ : DS) : w_Lbox_s4 E δ = (wSeq (wSet 6 (mE (wCall [true, false, false] sp_Lsides (wCons (wVar 0) (wCons (wFn pLen (wCons (wOp pIx (wVar 1) (wC (.int 0))) wNil)) (wCons (wVar 2) wNil)))))) w_Lbox_s3) E δ := rfl
def w_Lbox_7 : DTS := (wSeq (wSet 5 (mE (wCall [true, false] sp_Ldraw (wCons (wVar 0) (wCons (wC (.int 4)) wNil))))) w_Lbox_s4)
def w_Lbox_t4 : DTS := (wRet (wOp pMulT (wTup (wCons (wC (.int 1)) wNil)) (wFn pLen (wCons (wOp pIx (wVar 1) (wC (.int 0))) wNil))))
def w_Lbox : DTS := (wSeq (wFor (iRange1 (wCons (wC (.int 12)) wNil)) (gN 4) w_Lbox_7) w_Lbox_t4)
theorem ln_Lsides : ∀ cs R, sp_Lsides cs R → cs.length = 3 := by
  intro cs R h
  unfold sp_Lsides at h
  repeat (obtain ⟨_, h⟩ := h)
  subst_vars; rfl
theorem ln_Lpair : ∀ cs R, sp_Lpair cs R → cs.length = 3 := by
  intro cs R h
  unfold sp_Lpair at h
  repeat (obtain ⟨_, h⟩ := h)
  subst_vars; rfl
theorem ln_Lis_sum : ∀ cs R, sp_Lis_sum cs R → cs.length = 3 := by
  intro cs R h
  unfold sp_Lis_sum at h
  repeat (obtain ⟨_, h⟩ := h)
  subst_vars; rfl
theorem ln_Lrests : ∀ cs R, sp_Lrests cs R → cs.length = 2 := by
  intro cs R h
  unfold sp_Lrests at h
  repeat (obtain ⟨_, h⟩ := h)
  subst_vars; rfl
theorem ln_Lis_filled : ∀ cs R, sp_Lis_filled cs R → cs.length = 2 := by
  intro cs R h
  unfold sp_Lis_filled at h
  repeat (obtain ⟨_, h⟩ := h)
  subst_vars; rfl
theorem ln_Lone : ∀ cs R, sp_Lone cs R → cs.length = 2 := by
  intro cs R h
  unfold sp_Lone at h
  repeat (obtain ⟨_, h⟩ := h)
  subst_vars; rfl
theorem ln_Lvolume : ∀ cs R, sp_Lvolume cs R → cs.length = 1 := by
  intro cs R h
  unfold sp_Lvolume at h
  repeat (obtain ⟨_, h⟩ := h)
  subst_vars; rfl
theorem ln_Llcm : ∀ cs R, sp_Llcm cs R → cs.length = 2 := by
  intro cs R h
  unfold sp_Llcm at h
  repeat (obtain ⟨_, h⟩ := h)
  subst_vars; rfl
theorem ln_Lcut_box : ∀ cs R, sp_Lcut_box cs R → cs.length = 3 := by
  intro cs R h
  unfold sp_Lcut_box at h
  repeat (obtain ⟨_, h⟩ := h)
  subst_vars; rfl
theorem ln_Lplain_box : ∀ cs R, sp_Lplain_box cs R → cs.length = 3 := by
  intro cs R h
  unfold sp_Lplain_box at h
  repeat (obtain ⟨_, h⟩ := h)
  subst_vars; rfl
theorem ln_Lbox : ∀ cs R, sp_Lbox cs R → cs.length = 4 := by
  intro cs R h
  unfold sp_Lbox at h
  repeat (obtain ⟨_, h⟩ := h)
  subst_vars; rfl
end TW
set_option Elab.async false
set_option linter.all false
set_option maxRecDepth 100000
set_option maxHeartbeats 4000000
namespace TW
open PySem PySem.Spec PyProof.Rows L2 DL
theorem rd_Lone : ∀ cs R, sp_Lone cs R → w_Lone (endsOf cs R) (start0 2 cs) := by
  rintro _ R ⟨a, b, c, d, xs, rfl, hd, h0, h1, hR⟩
  cases d with
  | list ds =>
    cases hd
    simp -implicitDefEqProofs -dsimp [w_Lone]
    refine ask_draw (by omega) (by omega) fun r q0 q1 => ?_
    (try simp -implicitDefEqProofs -dsimp)
    obtain ⟨z, hz, e⟩ := atI_ex (xs := xs) q0 q1
    exact onS_of e (by simp -implicitDefEqProofs -dsimp; exact hR z hz)
  | tuple ds =>
    cases hd
    simp -implicitDefEqProofs -dsimp [w_Lone]
    refine ask_draw (by omega) (by omega) fun r q0 q1 => ?_
    (try simp -implicitDefEqProofs -dsimp)
    obtain ⟨z, hz, e⟩ := atI_ex (xs := xs) q0 q1
    exact onS_of e (by simp -implicitDefEqProofs -dsimp; exact hR z hz)
  | _ => cases hd
theorem rd_Lsides : ∀ cs R, sp_Lsides cs R → w_Lsides (endsOf cs R) (start0 4 cs) := by
  rintro _ R ⟨a, b, c, n, m, rfl, h0, h1, h2, h3, hR⟩
  simp -implicitDefEqProofs -dsimp [w_Lsides]
  refine ⟨by omega, by omega, ?_⟩
  refine com_ints (fun i => 1 ≤ i ∧ i ≤ m) (fun x hx acc K hK => ?_) fun ns hl hn => ?_
  · (try simp -implicitDefEqProofs -dsimp)
    refine ask_draw h2 (by omega) fun r q0 q1 => ?_
    (try simp -implicitDefEqProofs -dsimp)
    exact hK _ ⟨by omega, by omega⟩
  · (try simp -implicitDefEqProofs -dsimp)
    exact hR ns (by simpa [nums] using hl) hn
theorem cutD_drop {α : Type} (xs : List α) (n : Nat) : cutD xs (some (n : Int)) none = xs.drop n := by
  unfold DL.cutD
  rw [HT.sIx_none, HT.sIx_nat]
  by_cases h : n ≤ xs.length
  · rw [Nat.min_eq_left h, List.take_of_length_le (by simp)]
  · rw [Nat.min_eq_right (by omega), List.drop_of_length_le (show xs.length ≤ xs.length by omega), List.drop_of_length_le (by omega)]; simp
theorem cutD_drop1 {α : Type} (xs : List α) (n : Nat) : cutD xs (some ((n : Int) + 1)) none = xs.drop (n + 1) := cutD_drop xs (n + 1)
theorem put_at {α : Type} {xs : List α} {n : Nat} {y : α} (h : n < xs.length) : xs.take n ++ (y :: xs.drop (n + 1)) = xs.set n y := by
  rw [List.set_eq_take_append_cons_drop, if_pos h]
/-- x[:i] + (d,) + x[i + 1:] -/
theorem cut_put {xs : List PyData} {n : Nat} {y : PyData} (h : n < xs.length) : cutD xs none (some (n : Int)) ++ [y] ++ cutD xs (some ((n : Int) + 1)) none = xs.set n y := by
  rw [cutD_take, cutD_drop1, List.append_assoc, List.singleton_append, put_at h]
theorem In.set {m y : Int} {ns : List Int} {n : Nat} (h : In m ns) (h0 : 1 ≤ y) (h1 : y ≤ m) : In m (ns.set n y) := fun x hx => by
  rcases List.mem_or_eq_of_mem_set hx with q | q
  · exact h x q
  · subst q; exact ⟨h0, h1⟩
theorem rd_Lpair : ∀ cs R, sp_Lpair cs R → w_Lpair (endsOf cs R) (start0 6 cs) := by
  rintro _ R ⟨a, b, c, n, m, rfl, h0, h1, h2, h3, hR⟩
  simp -implicitDefEqProofs -dsimp [w_Lpair]
  refine ask_of ⟨a, b, c, n, m, rfl, by omega, by omega, h2, h3, fun p hp ip => ?_⟩
  (try simp -implicitDefEqProofs -dsimp)
  refine ask_of ⟨a, b, c, n, m, rfl, by omega, by omega, h2, h3, fun q hq iq => ?_⟩
  (try simp -implicitDefEqProofs -dsimp)
  refine ask_draw (by omega) (by omega) fun r q0 q1 => ?_
  (try simp -implicitDefEqProofs -dsimp)
  split
  · simp -implicitDefEqProofs -dsimp [w_Lpair_1]
    refine ask_draw (by omega) (by omega) fun t t0 t1 => ?_
    (try simp -implicitDefEqProofs -dsimp)
    refine ask_draw (by omega) (by omega) fun u u0 u1 => ?_
    obtain ⟨k, rfl⟩ : ∃ k : Nat, t = k := ⟨t.toNat, by omega⟩
    have e := cut_put (xs := lI p) (n := k) (y := .int (1 + u)) (by simp; omega)
    simp only [lI, List.append_assoc, List.singleton_append] at e
    simp -implicitDefEqProofs -dsimp [w_Lpair_t1, e]
    have l1 : (DL.cutD (lI p) none (some ↑k)).length ≤ 1000 := by rw [cutD_take]; simp; omega
    have l2 : (DL.cutD (lI p) (some (↑k + 1)) none).length ≤ 1000 := by rw [cutD_drop1]; simp; omega
    refine ⟨by omega, by omega, ?_⟩
    rw [← List.map_set]
    exact hR p (p.set k (1 + u)) hp (by simpa using hp) ip (ip.set (by omega) (by omega))
  · simp -implicitDefEqProofs -dsimp [w_Lpair_t1]
    exact hR p q hp hq ip iq
theorem lcm_pos {a b : Int} (ha : 1 ≤ a) (hb : 1 ≤ b) : 1 ≤ lcmI a b ∧ lcmI a b ≤ a * b ∧ a ∣ lcmI a b ∧ b ∣ lcmI a b := by
  obtain ⟨g0, g1⟩ := gcd_le (b := b) ha
  obtain ⟨a', ea⟩ := gcd_dvd_l a b
  obtain ⟨b', eb⟩ := gcd_dvd_r a b
  unfold lcmI
  have e1 : a * b / gcdI a b = a * b' := by
    conv => lhs; rw [show a * b = gcdI a b * (a * b') by rw [Int.mul_left_comm, ← eb]]
    exact Int.mul_ediv_cancel_left _ (by omega)
  have e2 : a * b / gcdI a b = b * a' := by
    conv => lhs; rw [show a * b = gcdI a b * (b * a') by rw [Int.mul_left_comm, ← ea, Int.mul_comm]]
    exact Int.mul_ediv_cancel_left _ (by omega)
  have p : 0 < b' := Int.pos_of_mul_pos_right (a := gcdI a b) (b := b') (by rw [← eb]; omega) (by omega)
  have q := Int.mul_le_mul_of_nonneg_left (show (1 : Int) ≤ b' by omega) (show 0 ≤ a by omega)
  have r : b' ≤ b := by
    have := Int.mul_le_mul_of_nonneg_right g0 (show 0 ≤ b' by omega)
    omega
  have s := Int.mul_le_mul_of_nonneg_left r (show 0 ≤ a by omega)
  refine ⟨by rw [e1]; omega, by rw [e1]; omega, ⟨b', e1⟩, ⟨a', e2⟩⟩
theorem rd_Llcm : ∀ cs R, sp_Llcm cs R → w_Llcm (endsOf cs R) (start0 2 cs) := by
  rintro _ R ⟨a, b, rfl, ⟨a0, a1⟩, ⟨b0, b1⟩, hR⟩
  obtain ⟨g0, g1⟩ := gcd_le (b := b) a0
  have B := BIG_ge
  simp -implicitDefEqProofs -dsimp [w_Llcm]
  refine ⟨mul_big (by omega) (by omega) (by omega) (by omega), ask_of ⟨a, b, rfl, by omega, by omega, ?_⟩⟩
  (try simp -implicitDefEqProofs -dsimp)
  exact ⟨div_big (by omega) (by omega), hR⟩
theorem Pr.at {p q : List Int} (h : Pr p q) {i : Nat} (hi : i < p.length) : p[i]? = some (gi p i) ∧ q[i]? = some (gi q i) ∧ (1 ≤ gi p i ∧ gi p i < 2 ^ 60) ∧ (1 ≤ gi q i ∧ gi q i < 2 ^ 60) :=
  have hj : i < q.length := by have := h.l; omega
  ⟨gi_at hi, gi_at hj, h.p _ (gi_mem hi), h.q _ (gi_mem hj)⟩
theorem pos60 {x : Int} (h : 1 ≤ x ∧ x < 2 ^ 60) : Pos x := Pos.of h.1 (by omega)
theorem gi_set {ns : List Int} {i k : Nat} {y : Int} (hi : i < ns.length) : gi (ns.set k y) i = if i = k then y else gi ns i := by
  unfold gi
  rw [List.getElem?_set]
  by_cases h : k = i
  · subst h; simp [hi]
  · rw [if_neg h, if_neg (fun e => h e.symm)]
theorem nums_0L (n : Nat) : nums 0 n = lN (List.range n) := nums_0 n
theorem rd_Lcut_box : ∀ cs R, sp_Lcut_box cs R → w_Lcut_box (endsOf cs R) (start0 6 cs) := by
  rintro _ R ⟨a, b, c, p, q, m, rfl, h, h0, h1, hR⟩
  have l0 := h.l0
  have l1 := h.l1
  simp -implicitDefEqProofs -dsimp [w_Lcut_box]
  refine ask_draw (by omega) (by omega) fun t t0 t1 => ?_
  obtain ⟨ax, rfl⟩ : ∃ k : Nat, t = k := ⟨t.toNat, by omega⟩
  (try simp -implicitDefEqProofs -dsimp)
  intro fa
  refine ⟨by omega, ?_⟩
  rw [nums_0]
  refine for_plain (List.range p.length) _ rfl (fun rest δ => ∃ (c5 : Cell) (done : Nat), done + rest.length = p.length ∧ rest = (List.range' done (p.length - done)) ∧ δ = [.dk a b c, .d (prD p q), .d (.int m), .d (.int (ax : Nat)), .ol fa (lI ((List.range done).map fun i => lcmI (gi p i) (gi q i))), c5]) ⟨_, 0, by simp, by simp [List.range_eq_range'], rfl⟩ ?_ ?_
  · rintro δ ⟨c5, done, hd, _, rfl⟩
    have : done = p.length := by simpa using hd
    subst this
    obtain ⟨ep, eq, ip, iq⟩ := h.at (i := ax) (by omega)
    simp -implicitDefEqProofs -dsimp [w_Lcut_box_t1, ep, eq]
    refine ask_draw (by omega) (by omega) fun x x0 x1 => ?_
    simp -implicitDefEqProofs -dsimp [ep, eq]
    refine ⟨cm_l (by omega), ask_draw (by omega) (by omega) fun y y0 y1 => ?_⟩
    refine ⟨cm_l (by omega), ⟨fa, _, rfl⟩, ax, ?_, ?_⟩
    · rw [ixN_nn (by omega) (by simp; omega)]; simp
    · (try simp -implicitDefEqProofs -dsimp)
      have e : List.map (PyData.int ∘ fun i => lcmI (gi p i) (gi q i)) (List.range p.length) = lI ((List.range p.length).map fun i => lcmI (gi p i) (gi q i)) := by simp [lI]
      rw [e, ← List.map_set]
      refine hR _ ⟨by simp, ax, x, 1 + y, by omega, x0, x1, by omega, by omega, fun i hi => ?_⟩
      rw [gi_set (by simpa using hi)]
      by_cases z : i = ax
      · subst z; simp
      · rw [if_neg z, if_neg z, gi_range hi]
  · rintro i rest δ ⟨c5, done, hd, hr, rfl⟩ K B T hK
    have hlt : done < p.length := by simp at hd; omega
    rw [show p.length - done = (p.length - done - 1) + 1 by omega, List.range'_succ, List.cons.injEq] at hr
    obtain ⟨rfl, hr⟩ := hr
    obtain ⟨ep, eq, ip, iq⟩ := h.at hlt
    simp -implicitDefEqProofs -dsimp [w_Lcut_box_1, ep, eq]
    refine ⟨⟨fa, _, rfl⟩, ask_of ⟨_, _, rfl, pos60 ip, pos60 iq, ?_⟩⟩
    (try simp -implicitDefEqProofs -dsimp)
    have e : List.map (PyData.int ∘ fun i => lcmI (gi p i) (gi q i)) (List.range i) ++ [PyData.int (lcmI (gi p i) (gi q i))] = lI ((List.range (i + 1)).map fun i => lcmI (gi p i) (gi q i)) := by simp [List.range_succ]
    rw [e]
    exact ⟨by omega, hK _ ⟨_, i + 1, by simp at hd; omega, by rw [hr]; congr 1, rfl⟩⟩
theorem iseq_t (xs : List PyData) (δ : DS) (R : List PyData → DS → Prop) : True := trivial
theorem IsPlainBox.of {p ns : List Int} {m : Int} (hl : ns.length = p.length) (h : ∀ i, i < p.length → ∃ k, 1 ≤ k ∧ k ≤ m ∧ gi ns i = gi p i * k) : IsPlainBox p ns m := ⟨hl, h⟩
/-- each item by one of many, place by place -/
theorem com_gi {g : DTG} {t : DT} {e : DE} {vs : List Nat} {δ : DS} {xs : List Int} {R : List PyData → DS → Prop} {u : Stop R} (P : Int → Int → Prop)
    (hs : ∀ x ∈ xs, ∀ (acc : List PyData) (K : List PyData → DS → Prop), (∀ y, P x y → K (acc ++ [.int y]) δ) → g (.int x) δ fun δ1 => t δ1 fun b δ2 => if b = true then e δ2 fun o δ3 => lk o δ3 fun y δ4 => K (acc ++ [y]) (wipeD δ4 vs) else K acc (wipeD δ2 vs)) (k : ∀ ns : List Int, ns.length = xs.length → (∀ i, i < xs.length → P (gi xs i) (gi ns i)) → R (lI ns) δ) : comC g t e vs (lI xs) [] δ R u := by
  refine com_inv (fun ys acc δ' => δ' = δ ∧ ∃ (pre post ns : List Int), xs = pre ++ post ∧ ys = lI post ∧ acc = lI ns ∧ ns.length = pre.length ∧ ∀ i, i < pre.length → P (gi pre i) (gi ns i)) ⟨rfl, [], xs, [], rfl, rfl, rfl, rfl, by simp⟩ ?_ ?_
  · rintro acc δ' ⟨rfl, pre, post, ns, he, hy, rfl, hl, hp⟩
    have : post = [] := by
      cases post with
      | nil => rfl
      | cons => cases hy
    subst this
    have : pre = xs := by rw [he]; simp
    subst this
    exact k ns hl hp
  · rintro x ys acc δ' ⟨rfl, pre, post, ns, he, hy, rfl, hl, hp⟩ K hK
    cases post with
    | nil => cases hy
    | cons z post =>
      simp only [lI, List.map_cons, List.cons.injEq] at hy
      obtain ⟨rfl, rfl⟩ := hy
      refine hs z (by rw [he]; simp) _ K fun y py => hK _ _ ⟨rfl, pre ++ [z], post, ns ++ [y], by rw [he]; simp, rfl, by simp, by simp [hl], fun i hi => ?_⟩
      by_cases c : i < pre.length
      · have e1 : gi (pre ++ [z]) i = gi pre i := by unfold gi; rw [List.getElem?_append_left c]
        have e2 : gi (ns ++ [y]) i = gi ns i := by unfold gi; rw [List.getElem?_append_left (by omega)]
        rw [e1, e2]; exact hp i c
      · have : i = pre.length := by simp at hi; omega
        subst this
        have e1 : gi (pre ++ [z]) pre.length = z := by unfold gi; simp
        have e2 : gi (ns ++ [y]) pre.length = y := by unfold gi; rw [← hl]; simp
        rw [e1, e2]; exact py
theorem rd_Lplain_box : ∀ cs R, sp_Lplain_box cs R → w_Lplain_box (endsOf cs R) (start0 5 cs) := by
  rintro _ R ⟨a, b, c, p, q, m, rfl, h, h0, h1, hR⟩
  simp -implicitDefEqProofs -dsimp [w_Lplain_box]
  refine ask_of ⟨a, b, c, _, _, rfl, rfl, by simp, by simp, fun x hx => ?_⟩
  have main : ∀ br : List Int, (∀ x ∈ br, 1 ≤ x ∧ x < 2 ^ 60) → (∀ ns, IsPlainBox br ns m → R (tI ns) [.dk a b c, .d (prD p q), .d (.int m)]) →
      comC (gN 4) tT (wOp pMulT (wVar 4) (wOp pAdd (wC (.int 1)) (wCall [true, false] sp_Ldraw (wCons (wVar 0) (wCons (wVar 2) wNil))))) [4] (lI br) [] [.dk a b c, .d (prD p q), .d (.int m), .d (tI br), .em] (fun ys δ2 => (endsOf [.dk a b c, .d (prD p q), .d (.int m)] R).rt (.tuple ys) (backD [.dk a b c, .d (prD p q), .d (.int m), .d (tI br), .em] δ2 [4])) .mk := fun br hb hk => by
    refine com_gi (fun x y => ∃ k, 1 ≤ k ∧ k ≤ m ∧ y = x * k) (fun x hx acc K hK => ?_) fun ns hl hn => ?_
    · (try simp -implicitDefEqProofs -dsimp)
      refine ask_draw h0 (by omega) fun r q0 q1 => ?_
      (try simp -implicitDefEqProofs -dsimp)
      have := hb x hx
      exact ⟨cm_l (by omega), hK _ ⟨1 + r, by omega, by omega, rfl⟩⟩
    · (try simp -implicitDefEqProofs -dsimp)
      exact hk ns ⟨hl, hn⟩
  rcases List.mem_cons.mp hx with rfl | hx
  · (try simp -implicitDefEqProofs -dsimp)
    exact main p h.p fun ns hn => hR ns (.inl hn)
  · have hx := List.mem_singleton.mp hx
    subst hx
    (try simp -implicitDefEqProofs -dsimp)
    exact main q h.q fun ns hn => hR ns (.inr hn)
theorem rd_Lrests : ∀ cs R, sp_Lrests cs R → w_Lrests (endsOf cs R) (start0 3 cs) := by
  rintro _ R ⟨br, bx, rfl, hl, hl2, hb, hR⟩
  simp -implicitDefEqProofs -dsimp [w_Lrests]
  refine ⟨by omega, ?_⟩
  rw [nums_0]
  refine com_map (List.range bx.length) _ rfl (fun i => if (!decide (gi bx i % gi br i = 0)) = true then some (.int (i : Nat)) else none) (fun i hi acc K hK => ?_) ?_
  · have hi := List.mem_range.mp hi
    have p := hb _ (gi_mem (ns := br) (i := i) (by omega))
    simp -implicitDefEqProofs -dsimp [gi_at (ns := br) (i := i) (by omega), gi_at hi]
    refine ⟨by omega, ?_⟩
    split
    · rename_i z
      simpa [z] using hK
    · rename_i z
      simpa [z] using hK
  · rw [fm_map]
    (try simp -implicitDefEqProofs -dsimp)
    exact hR
theorem foldl_app {ns : List Int} {x y : Int} : (ns ++ [x]).foldl (fun a b => a * b) y = ns.foldl (fun a b => a * b) y * x := by simp
theorem rd_Lvolume : ∀ cs R, sp_Lvolume cs R → w_Lvolume (endsOf cs R) (start0 3 cs) := by
  rintro _ R ⟨ns, rfl, h, hR⟩
  simp -implicitDefEqProofs -dsimp [w_Lvolume]
  refine for_plain ns _ rfl (fun rest δ => ∃ (c2 : Cell) (pre : List Int), ns = pre ++ rest ∧ δ = [.d (tI ns), .d (.int (vol pre)), c2]) ⟨_, [], rfl, rfl⟩ ?_ ?_
  · rintro δ ⟨c2, pre, he, rfl⟩
    have : pre = ns := by rw [he]; simp
    subst this
    (try simp -implicitDefEqProofs -dsimp)
    exact hR
  · rintro x rest δ ⟨c2, pre, he, rfl⟩ K B T hK
    have := h x (by rw [he]; simp)
    simp -implicitDefEqProofs -dsimp [w_Lvolume_1]
    have e : vol pre * x = vol (pre ++ [x]) := by unfold vol; rw [foldl_app]
    rw [e]
    exact ⟨cm_r (by omega), hK _ ⟨_, pre ++ [x], by rw [he]; simp, rfl⟩⟩
/-- .. as the laws go through them -/
theorem isSum_ks {s a b : Int} (hs : 0 ≤ s) (ha : 1 ≤ a) (hb : 1 ≤ b) : isSum a b s = !((List.range (s / a + 1).toNat).filter fun (k : Nat) => decide ((s - (k : Int) * a) % b = 0)).isEmpty := by
  rw [Bool.eq_iff_iff, isSum_iff ha hb]
  have q := Int.ediv_nonneg hs (show 0 ≤ a by omega)
  simp only [Bool.not_eq_true', List.isEmpty_eq_false_iff_exists_mem, List.mem_filter, List.mem_range, decide_eq_true_eq]
  constructor
  · rintro ⟨x, y, hx, hy, rfl⟩
    have hby := Int.mul_nonneg (show 0 ≤ b by omega) hy
    refine ⟨x.toNat, ?_, ?_⟩
    · have : x ≤ (a * x + b * y) / a := by
        rw [Int.le_ediv_iff_mul_le (by omega), Int.mul_comm]; omega
      omega
    · rw [Int.toNat_of_nonneg hx]
      have : a * x + b * y - x * a = b * y := by rw [Int.mul_comm x a]; omega
      rw [this]; exact Int.mul_emod_right ..
  · rintro ⟨k, hk, hm⟩
    have hk' : (k : Int) ≤ s / a := by omega
    rw [Int.le_ediv_iff_mul_le (by omega)] at hk'
    obtain ⟨y, hy⟩ := Int.dvd_of_emod_eq_zero hm
    refine ⟨k, y, by omega, ?_, by rw [Int.mul_comm a]; omega⟩
    by_cases c : 0 ≤ y
    · exact c
    · have : b * y ≤ b * (-1) := Int.mul_le_mul_of_nonneg_left (by omega) (by omega)
      omega
theorem rd_Lis_sum : ∀ cs R, sp_Lis_sum cs R → w_Lis_sum (endsOf cs R) (start0 4 cs) := by
  rintro _ R ⟨s, a, b, rfl, s0, s1, a0, a1, b0, h, hR⟩
  have q := Int.ediv_nonneg s0 (show 0 ≤ a by omega)
  simp -implicitDefEqProofs -dsimp [w_Lis_sum]
  refine ⟨(pos60 ⟨a0, a1⟩).div, by omega, by omega, ?_⟩
  rw [nums_0]
  refine com_map (List.range (s / a + 1).toNat) _ rfl (fun k => if decide ((s - (k : Int) * a) % b = 0) = true then some (.int (k : Nat)) else none) (fun k hk acc K hK => ?_) ?_
  · have hk := List.mem_range.mp hk
    (try simp -implicitDefEqProofs -dsimp)
    refine ⟨cm_r (by omega), by omega, ?_⟩
    split
    · rename_i z
      simpa [z] using hK
    · rename_i z
      simpa [z] using hK
  · rw [fm_map]
    (try simp -implicitDefEqProofs -dsimp)
    rw [isSum_ks s0 a0 b0] at hR
    refine ⟨shaped_nats _, shaped_nil, ?_⟩
    rw [eqv_nats]
    exact hR
theorem eqv_natsA : ∀ (as bs : List Nat), PyData.eqvAll (lN as) (lN bs) = decide (as = bs)
  | [], [] => by simp [PyData.eqvAll]
  | [], _ :: _ => by simp [PyData.eqvAll]
  | _ :: _, [] => by simp [PyData.eqvAll]
  | a :: as, b :: bs => by
    have := eqv_natsA as bs
    simp only [lN, List.map_cons, PyData.eqvAll, PyData.eqv] at this ⊢
    rw [this]
    by_cases h : a = b
    · subst h; simp
    · have : ¬ ((a : Int) = (b : Int)) := by omega
      simp [h, this]
theorem rd_Lis_filled : ∀ cs R, sp_Lis_filled cs R → w_Lis_filled (endsOf cs R) (start0 4 cs) := by
  rintro _ R ⟨a, b, bx, rfl, la, lb, ll, ha, hb, hx, hR⟩
  simp -implicitDefEqProofs -dsimp [w_Lis_filled]
  refine ask_of (sp := sp_Lrests) ⟨a, bx, rfl, by omega, by omega, fun x h => (ha x h).1, ?_⟩
  (try simp -implicitDefEqProofs -dsimp)
  refine ask_of (sp := sp_Lrests) ⟨b, bx, rfl, by omega, by omega, hb, ?_⟩
  simp -implicitDefEqProofs -dsimp [shaped_nats, eqv_nats, shaped_nil]
  unfold fillB at hR
  by_cases ea : restsF a bx = []
  · rw [ea] at hR
    rw [if_pos ea]
    exact hR
  rw [if_neg ea]
  by_cases eb : restsF b bx = []
  · rw [eb] at hR
    rw [if_pos eb]
    simpa using hR
  rw [if_neg eb]
  have na : (restsF a bx).isEmpty = false := by simpa using ea
  have nb : (restsF b bx).isEmpty = false := by simpa using eb
  rw [na, nb, Bool.false_or, Bool.false_or] at hR
  simp -implicitDefEqProofs -dsimp [w_Lis_filled_t2, shaped_nats, eqv_natsA]
  by_cases h1 : 1 < (restsF a bx).length
  · have : ¬ (restsF a bx).length = 1 := by omega
    rw [if_pos (by omega)]
    simpa [this] using hR
  by_cases h2 : restsF a bx = restsF b bx
  · have h3 : (restsF a bx).length = 1 := by
      have : 0 < (restsF a bx).length := List.length_pos_iff.mpr ea
      omega
    obtain ⟨ax, hax⟩ := List.length_eq_one_iff.mp h3
    have hlt : ax < bx.length := (mem_rests.mp (by rw [hax]; exact List.mem_cons_self ..)).1
    rw [if_neg (by omega), if_pos h2]
    rw [← h2, hax] at hR ⊢
    simp -implicitDefEqProofs -dsimp [w_Lis_filled_t1, gi_at (show ax < a.length by omega), gi_at (show ax < b.length by omega), gi_at hlt]
    obtain ⟨x0, x1, x2⟩ := hx ax hlt
    have a0 := ha _ (gi_mem (show ax < a.length by omega))
    have b0 := hb _ (gi_mem (show ax < b.length by omega))
    refine ask_of ⟨_, _, _, rfl, x0, x1, a0.1, a0.2, b0, x2, ?_⟩
    simpa using hR
  · rw [if_neg (by omega), if_neg h2]
    simpa [h2] using hR
theorem vol_cons (x : Int) (xs : List Int) : vol (x :: xs) = x * vol xs := by
  unfold vol
  have : ∀ (l : List Int) (y z : Int), l.foldl (fun a b => a * b) (y * z) = y * l.foldl (fun a b => a * b) z := by
    intro l
    induction l with
    | nil => intros; rfl
    | cons w l ih => intro y z; simp only [List.foldl_cons]; rw [Int.mul_assoc, ih]
  rw [List.foldl_cons, Int.one_mul, ← this xs x 1, Int.mul_one]
theorem vol_pos : ∀ {ns : List Int}, (∀ x ∈ ns, 1 ≤ x) → 1 ≤ vol ns
  | [], _ => by simp [vol]
  | x :: xs, h => by
    have a := h x (List.mem_cons_self ..)
    have b := vol_pos fun y hy => h y (List.mem_cons_of_mem _ hy)
    rw [vol_cons]
    have := Int.mul_le_mul a b (by omega) (by omega)
    omega
theorem vol_ge : ∀ {ns : List Int}, (∀ x ∈ ns, 1 ≤ x) → ∀ x ∈ ns, x ≤ vol ns
  | [], _, x, hx => by cases hx
  | y :: ys, h, x, hx => by
    have a := h y (List.mem_cons_self ..)
    have h' : ∀ z ∈ ys, 1 ≤ z := fun z hz => h z (List.mem_cons_of_mem _ hz)
    have b := vol_pos h'
    rw [vol_cons]
    rcases List.mem_cons.mp hx with rfl | hx
    · have := Int.mul_le_mul_of_nonneg_left b (show 0 ≤ x by omega)
      omega
    · have c := vol_ge h' x hx
      have := Int.mul_le_mul_of_nonneg_right a (show 0 ≤ vol ys by omega)
      omega
theorem vol_in {ns : List Int} {v : Int} (h : ∀ x ∈ ns, 1 ≤ x) (hv : vol ns ≤ v) : In v ns := fun x hx => ⟨h x hx, by have := vol_ge h x hx; omega⟩
/-- a side of any box that is drawn -/
def Mid (B : Int) (p ns : List Int) : Prop := ns.length = p.length ∧ ∀ x ∈ ns, 1 ≤ x ∧ x < B
theorem mid_of {B : Int} {p ns : List Int} (hl : ns.length = p.length) (h : ∀ i, i < p.length → 1 ≤ gi ns i ∧ gi ns i < B) : Mid B p ns := ⟨hl, fun x hx => by
  obtain ⟨i, hi, e⟩ := List.mem_iff_getElem.mp hx
  have := h i (by omega)
  have g := gi_at hi
  rw [List.getElem?_eq_getElem hi, e] at g
  rw [← Option.some.inj g] at this
  exact this⟩
theorem cut_mid {p q ns : List Int} (h : Pr p q) (hp : ∀ x ∈ p, x < 2 ^ 20) (hq : ∀ x ∈ q, x < 2 ^ 20) (c : IsCutBox p q ns 3) : Mid (2 ^ 50) p ns := by
  obtain ⟨hl, ax, x, y, hax, x0, x1, y0, y1, e⟩ := c
  refine mid_of hl fun i hi => ?_
  obtain ⟨_, _, ip, iq⟩ := h.at hi
  have a1 := hp _ (gi_mem hi)
  have b1 := hq _ (gi_mem (show i < q.length by have := h.l; omega))
  rw [e i hi]
  split
  · have u1 := Int.mul_le_mul_of_nonneg_left (show x ≤ 3 by omega) (show 0 ≤ gi p i by omega)
    have u2 := Int.mul_le_mul_of_nonneg_left (show y ≤ 3 by omega) (show 0 ≤ gi q i by omega)
    have u3 := Int.mul_le_mul_of_nonneg_left y0 (show 0 ≤ gi q i by omega)
    have u4 := Int.mul_nonneg (show 0 ≤ gi p i by omega) x0
    omega
  · obtain ⟨u1, u2, _⟩ := lcm_pos ip.1 iq.1
    have := Int.mul_le_mul (show gi p i ≤ 2 ^ 20 by omega) (show gi q i ≤ 2 ^ 20 by omega) (by omega) (by omega)
    omega
theorem plain_mid {p br ns : List Int} (hl : br.length = p.length) (hb : ∀ x ∈ br, 1 ≤ x ∧ x < 2 ^ 60) (hp : ∀ x ∈ br, x < 2 ^ 20) (c : IsPlainBox br ns 3) : Mid (2 ^ 50) p ns := by
  refine mid_of (by rw [c.1, hl]) fun i hi => ?_
  obtain ⟨k, k0, k1, e⟩ := c.2 i (by omega)
  have a1 := hp _ (gi_mem (show i < br.length by omega))
  have a2 := hb _ (gi_mem (show i < br.length by omega))
  rw [e]
  have u1 := Int.mul_le_mul_of_nonneg_left (show k ≤ 3 by omega) (show 0 ≤ gi br i by omega)
  have u2 := Int.mul_le_mul_of_nonneg_left k0 (show 0 ≤ gi br i by omega)
  omega
/-- the end of a turn -/
theorem rd_Lbox_t1 {E : DEnds} {a b c : Addr} {p ns : List Int} {pr : PyData} {m v : Int} {c4 c5 c7 c8 : Cell} (h : Mid (2 ^ 62) p ns)
    (k0 : vol ns ≤ v → E.rt (tI ns) [.dk a b c, .d pr, .d (.int m), .d (.int v), c4, c5, .d (tI ns), c7, c8])
    (k1 : E.nx [.dk a b c, .d pr, .d (.int m), .d (.int v), c4, c5, .d (tI ns), c7, c8]) :
    w_Lbox_t1 E [.dk a b c, .d pr, .d (.int m), .d (.int v), c4, c5, .d (tI ns), c7, c8] := by
  simp -implicitDefEqProofs -dsimp [w_Lbox_t1]
  refine ask_of ⟨ns, rfl, fun x hx => by have := h.2 x hx; omega, ?_⟩
  (try simp -implicitDefEqProofs -dsimp)
  split
  · rename_i z
    exact k0 z
  · exact k1
theorem rd_Lbox_1 {E : DEnds} {a b c : Addr} {p q ns : List Int} {m v : Int} {c4 c5 c7 c8 : Cell} (h : Pr p q) (hp : ∀ x ∈ p, x < 2 ^ 20) (hq : ∀ x ∈ q, x < 2 ^ 20) (hn : Mid (2 ^ 62) p ns)
    (k : ∀ ns', Mid (2 ^ 62) p ns' → ∀ c7 c8, E.nx [.dk a b c, .d (prD p q), .d (.int m), .d (.int v), c4, c5, .d (tI ns'), c7, c8]) :
    w_Lbox_1 E [.dk a b c, .d (prD p q), .d (.int m), .d (.int v), c4, c5, .d (tI ns), c7, c8] := by
  have l0 := h.l0
  have l1 := h.l1
  have ln := hn.1
  simp -implicitDefEqProofs -dsimp [w_Lbox_1]
  refine ask_draw (by omega) (by omega) fun t t0 t1 => ?_
  obtain ⟨at', rfl⟩ : ∃ k : Nat, t = k := ⟨t.toNat, by omega⟩
  (try simp -implicitDefEqProofs -dsimp)
  refine ask_of ⟨a, b, c, p, q, 3, rfl, h, by omega, by omega, fun n1 h1 => ?_⟩
  (try simp -implicitDefEqProofs -dsimp)
  refine ask_of ⟨a, b, c, p, q, 3, rfl, h, by omega, by omega, fun n2 h2 => ?_⟩
  (try simp -implicitDefEqProofs -dsimp)
  refine ask_of ⟨a, b, c, _, _, rfl, rfl, by simp, by simp, fun x hx => ?_⟩
  have : ∃ n3, x = tI n3 ∧ Mid (2 ^ 50) p n3 := by
    rcases List.mem_cons.mp hx with rfl | hx
    · exact ⟨n1, rfl, cut_mid h hp hq h1⟩
    · have hx := List.mem_singleton.mp hx
      subst hx
      refine ⟨n2, rfl, ?_⟩
      rcases h2 with h2 | h2
      · exact plain_mid rfl h.p hp h2
      · exact plain_mid h.l h.q hq h2
  obtain ⟨n3, rfl, h3⟩ := this
  have l3 := h3.1
  simp -implicitDefEqProofs -dsimp [gi_at (show at' < n3.length by omega)]
  have g3 := h3.2 _ (gi_mem (show at' < n3.length by omega))
  refine ask_of ⟨a, b, c, _, _, rfl, rfl, by simp, by simp, fun y hy => ?_⟩
  have : ∃ z : Int, y = .int z ∧ -1 ≤ z ∧ z ≤ 2 := by
    simp only [List.mem_cons, List.not_mem_nil, or_false] at hy
    rcases hy with rfl | rfl | rfl
    · exact ⟨-1, rfl, by omega, by omega⟩
    · exact ⟨1, rfl, by omega, by omega⟩
    · exact ⟨2, rfl, by omega, by omega⟩
  obtain ⟨z, rfl, z0, z1⟩ := this
  have hw : ∀ y, DL.cutD (lI n3) none (some (at' : Int)) ++ (y :: DL.cutD (lI n3) (some ((at' : Int) + 1)) none) = (lI n3).set at' y := fun y => by
    have := cut_put (xs := lI n3) (n := at') (y := y) (by simp; omega)
    simpa only [List.append_assoc, List.singleton_append] using this
  simp only [lI] at hw
  simp -implicitDefEqProofs -dsimp [hw]
  have e1 : (DL.cutD (lI n3) none (some ↑at')).length ≤ 1000 := by rw [cutD_take]; simp; omega
  have e2 : (DL.cutD (lI n3) (some (↑at' + 1)) none).length ≤ 1000 := by rw [cutD_drop1]; simp; omega
  refine ⟨by omega, by omega, ?_⟩
  rw [← List.map_set]
  refine k _ ⟨by simpa using l3, fun x hx => ?_⟩ _ _
  rcases List.mem_or_eq_of_mem_set hx with q | q
  · have := h3.2 x q; omega
  · subst q
    split <;> omega
theorem rd_Lbox_for {E : DEnds} {a b c : Addr} {p q : List Int} {m v : Int} {c4 c5 c6 c7 c8 : Cell} {u : Stop E} {xs : List PyData} (h : Pr p q) (hp : ∀ x ∈ p, x < 2 ^ 20) (hq : ∀ x ∈ q, x < 2 ^ 20) (m0 : 0 < m) (m1 : m < 2 ^ 60)
    (k0 : ∀ ns, Mid (2 ^ 62) p ns → vol ns ≤ v → ∀ c4 c5 c7 c8, E.rt (tI ns) [.dk a b c, .d (prD p q), .d (.int m), .d (.int v), c4, c5, .d (tI ns), c7, c8])
    (k1 : ∀ c4 c5 c6 c7 c8, E.nx [.dk a b c, .d (prD p q), .d (.int m), .d (.int v), c4, c5, c6, c7, c8]) :
    forC (gN 4) w_Lbox_7 xs [.dk a b c, .d (prD p q), .d (.int m), .d (.int v), c4, c5, c6, c7, c8] E u := by
  refine for_inv (fun _ δ => ∃ c4 c5 c6 c7 c8, δ = [.dk a b c, .d (prD p q), .d (.int m), .d (.int v), c4, c5, c6, c7, c8]) (fun _ => False) (fun x δ => ∃ ns c4 c5 c7 c8, x = tI ns ∧ Mid (2 ^ 62) p ns ∧ vol ns ≤ v ∧ δ = [.dk a b c, .d (prD p q), .d (.int m), .d (.int v), c4, c5, .d (tI ns), c7, c8]) ⟨_, _, _, _, _, rfl⟩ ?_ (fun _ h => h.elim) ?_ ?_
  · rintro δ ⟨c4, c5, c6, c7, c8, rfl⟩
    exact k1 _ _ _ _ _
  · rintro x δ ⟨ns, c4, c5, c7, c8, rfl, hm, hv, rfl⟩
    exact k0 ns hm hv _ _ _ _
  · rintro x xs δ ⟨c4, c5, c6, c7, c8, rfl⟩ K B T hK _ hT
    have l0 := h.l0
    have l1 := h.l1
    simp -implicitDefEqProofs -dsimp [w_Lbox_7]
    refine ask_draw (by omega) (by omega) fun way w0 w1 => ?_
    (try simp -implicitDefEqProofs -dsimp)
    refine ask_of ⟨a, b, c, _, m, rfl, by omega, by omega, m0, by omega, fun ns hl hn => ?_⟩
    have ns0 : Mid (2 ^ 62) p ns := ⟨by omega, fun x hx => by have := hn x hx; omega⟩
    have last : ∀ ns, Mid (2 ^ 62) p ns → ∀ c7 c8, w_Lbox_t1 { nx := K, rt := T, bk := B, ct := K } [.dk a b c, .d (prD p q), .d (.int m), .d (.int v), .d x, .d (.int way), .d (tI ns), c7, c8] := fun ns hn c7 c8 =>
      rd_Lbox_t1 hn (fun hv => hT _ _ ⟨ns, _, _, _, _, rfl, hn, hv, rfl⟩) (hK _ ⟨_, _, _, _, _, rfl⟩)
    (try simp -implicitDefEqProofs -dsimp)
    split
    · rename_i e
      have e : way = 0 := by omega
      subst e
      simp -implicitDefEqProofs -dsimp [w_Lbox_5]
      refine ask_of ⟨a, b, c, p, q, 3, rfl, h, by omega, by omega, fun n1 h1 => ?_⟩
      have m1 := cut_mid h hp hq h1
      simp -implicitDefEqProofs -dsimp [w_Lbox_t3, w_Lbox_t2]
      exact last n1 ⟨m1.1, fun x hx => by have := m1.2 x hx; omega⟩ _ _
    simp -implicitDefEqProofs -dsimp [w_Lbox_t3]
    split
    · rename_i e
      have e : way = 1 := by omega
      subst e
      simp -implicitDefEqProofs -dsimp [w_Lbox_3]
      refine ask_of ⟨a, b, c, p, q, 3, rfl, h, by omega, by omega, fun n1 h1 => ?_⟩
      have m1 : Mid (2 ^ 50) p n1 := by
        rcases h1 with h1 | h1
        · exact plain_mid rfl h.p hp h1
        · exact plain_mid h.l h.q hq h1
      simp -implicitDefEqProofs -dsimp [w_Lbox_t2]
      exact last n1 ⟨m1.1, fun x hx => by have := m1.2 x hx; omega⟩ _ _
    simp -implicitDefEqProofs -dsimp [w_Lbox_t2]
    split
    · exact rd_Lbox_1 h hp hq ns0 fun ns' hn' c7 c8 => last ns' hn' c7 c8
    · exact last ns ns0 _ _
theorem vol_ones : ∀ n : Nat, vol (List.replicate n 1) = 1
  | 0 => rfl
  | n + 1 => by rw [List.replicate_succ, vol_cons, vol_ones n]; rfl
theorem rep_one (n : Nat) : (List.replicate n [PyData.int 1]).flatten = lI (List.replicate n 1) := by
  induction n with
  | zero => rfl
  | succ n ih => simp [List.replicate_succ]
theorem rd_Lbox : ∀ cs R, sp_Lbox cs R → w_Lbox (endsOf cs R) (start0 9 cs) := by
  rintro _ R ⟨a, b, c, p, q, m, v, rfl, h, hp, hq, m0, m1, v1, hR⟩
  have l0 := h.l0
  have l1 := h.l1
  simp -implicitDefEqProofs -dsimp [w_Lbox]
  refine rd_Lbox_for h hp hq m0 m1 (fun ns hn hv c4 c5 c7 c8 => ?_) (fun c4 c5 c6 c7 c8 => ?_)
  · (try simp -implicitDefEqProofs -dsimp)
    exact hR ns hn.1 (vol_in (fun x hx => (hn.2 x hx).1) hv) hv
  · simp -implicitDefEqProofs -dsimp [w_Lbox_t4, rep_one]
    refine ⟨by omega, ?_⟩
    have := hR (List.replicate p.length 1) (by simp) (fun x hx => by rw [List.eq_of_mem_replicate hx]; omega) (by rw [vol_ones]; exact v1)
    simpa [tI, lI] using this
end TW
set_option Elab.async false
set_option linter.all false
set_option maxRecDepth 100000
set_option maxHeartbeats 4000000
namespace DL
open PySem PySem.Spec PyProof.Rows L2 PySem.W PySem.Calls
variable [Tb]
/-! ### an exception of one's own whose __init__ says super().__init__(x); self.f = x -/
/-- what the written part tells of the class C, its __init__ at fI -/
structure ExcInitC (P : Program) (K : PySem.W.Frag) (C fI : Addr) (ps : List Str) : Prop where
  T : OexC K C
  cd : ∃ cdD, clsIn K C = some cdD
  sub : mroIn K C (.ref C) = some true
  opq : nsIn K cStatics "thirdparty.any" = some none
  ini : ks_superIn K C C "__init__" = some (some (.builtin "ValueError.__init__"))
  ve : subIn K (.ref C) (.type "ValueError") = some true
section
variable {prog : Program} {w : World} {A : Around} {E : Value → Shared → Prop} {s : Shared} {K : PySem.W.Frag}
theorem wp_super_init {body : List Stmt} {q : Str} {scope : Scope} {L f cda cc C e t0 : Addr} {fd : FuncData} {ar : Arg} {vs : Array Value} {file : Str} {tf : Tok} {oc ccl cl : Value} {od cdd cld : Option Addr} {osl ccs csl : Array (Option Value)} {p0 p1 p4 : Pos} {ex : Expr} {es : List Expr} {us : List Value} {m mg mb : Str → Option Value} {ps : List Str} {fI : Addr} {whole : Sem Value} {pl : Sem Bool} {Q : Value → Shared → Prop}
    (X : K.In s.heap) (T : ExcInitC prog K C fI ps) (hm : s.heap.Ns L m) (hG : s.heap.Ns mainGlobals mg) (hsm : mg "super" = none) (hB : s.heap.Ns builtinsNs mb) (hsb : mb "super" = some (.type "super"))
    (hf : K.lookup f = some ⟨oc, od, .func fd, osl⟩) (hp : (fd.params.posonlyargs ++ fd.params.args).head? = some ar) (hv : m ar.arg = some (.ref e)) (he : s.heap.get? e = some (HandSPX.excO C t0))
    (hcode : K.lookup cda = some ⟨ccl, cdd, .fields vs, ccs⟩) (hvs : vs[2]? = some (.str file tf)) (hfile : ((prog.main.file : Str) == file) = true)
    (hcell : K.lookup cc = some ⟨cl, cld, .cell (some (.ref C)), csl⟩)
    (hks : scope.names.lookup ("super" : Str) = some .globalImplicit) (hkc : scope.names.lookup ("__class__" : Str) = some .free) (hka : scope.names.lookup ar.arg = some .local) (hk : scope.kind = .function)
    (htop : (prog.main.scope.names.lookup ("super" : Str)).isSome = false) (hus : us.length ≤ 1000) (hst : starEach (ex :: es) (ksEnv q scope L f (.ref cda) cc) = (false, eval ex (ksEnv q scope L f (.ref cda) cc)) :: starEach es (ksEnv q scope L f (.ref cda) cc)) (hpl : (backTo p4 (starEach es (ksEnv q scope L f (.ref cda) cc))).any (·.1) = false)
    (hsp : ∀ (s1 : Shared) (Q : List Value → Shared → Prop), s1.heap.Ns L m → Q us s1 → wpAny (model prog w) A (spliced (backTo p4 (starEach (ex :: es) (ksEnv q scope L f (.ref cda) cc)))) Q E s1)
    (h : ∀ h' t', (∀ b o, b ≠ e → s.heap.get? b = some o → h'.get? b = some o) → (∃ t1, h'.get? e = some (HandSPX.excO C t1)) → Q .none { s with heap := h', toks := t' }) :
    _root_.PySem.wpAt (model prog w) A (.func body (ksEnv q scope L f (.ref cda) cc)) (attributeBase (.Call (.Name "super" p0) [] [] p1) "__init__" (ksEnv q scope L f (.ref cda) cc) whole)
      (fun ov s₁ => wpAny (model prog w) A (getMethod ov "__init__" pl) (fun fx s₂ => wpAny (model prog w) A (callWith p4 fx.1 fx.2 (backTo p4 (starEach (ex :: es) (ksEnv q scope L f (.ref cda) cc))) []) Q E s₂) E s₁) E s := by
  obtain ⟨nm, q', N, bs, bm, sn, sub, ab, col, dd, k0, k1, k2, k3, k5, hC, hbm⟩ := T.T.cls
  obtain ⟨cdD, hD⟩ := T.cd
  obtain ⟨hh, g, d, t, os⟩ := s
  obtain ⟨oD, hD1, hD2⟩ : ∃ oD, hh.get? C = some oD ∧ oD.data = .cls cdD := by
    unfold clsIn at hD
    split at hD
    · rename_i c d cd' sl ho
      cases hD
      exact ⟨_, X _ _ ho, rfl⟩
    · cases hD
  have eC : e ≠ C := fun z => by
    rw [z] at he
    rw [hD1] at he
    cases he
    cases hD2
  have hini := T.ini
  unfold ks_superIn at hini
  rw [hD] at hini
  refine ks_wpAt_super_base (env := ksEnv q scope L f (.ref cda) cc) hks hkc (by decide) rfl (X _ _ hf) rfl hp rfl (X _ _ hcode) rfl hvs hfile htop ?_
  refine ks_loadName_global hk hks (loadGlobal_builtin (env := ksEnv q scope L f (.ref cda) cc) hG hsm hB hsb ⟨rfl, ?_⟩)
  refine wpAny_loadName_free hk hkc rfl ⟨_, X _ _ hcell, rfl⟩ ?_
  refine wpAny_loadName_local hk hka hm hv ?_
  refine ks_wpAny_isType_cls hD1 hD2 ⟨rfl, ?_⟩
  refine ks_wpAny_call_super hD1 hD2 he rfl (fun c e => by cases e) (looks_mroIn X T.sub) (fun h1 e1 k1' => ?_)
  have X1 : K.In h1 := X.keeps k1'
  have he1 := k1' _ _ he
  have I1 : InstAt h1 e (HandSPX.excO C t0) C none := ⟨he1, rfl, rfl, trivial⟩
  refine kxs_getMethod kxs_ValueError e1 (looks_opaque X1 T.opq) (l₀ := cdD.mro) (fun A Q E s k q => wpAny_bind ((looks_clsIn X1 hD) A _ E s k (wpAny_pure q))) rfl X1 hini (I1.type.andThen (looks_subIn X1 T.ve)) eC (by decide) ?_
  have hm1 : h1.Ns L m := hm.keeps k1'
  have kk : ∀ b o, h1.get? b = some o → (h1.push (kxs_mw "ValueError.__init__" e)).get? b = some o := fun b o z => Heap.get?_push_of_some _ z
  have hu : (h1.push (kxs_mw "ValueError.__init__" e)).get? h1.objs.size = some (kxs_mw "ValueError.__init__" e) := Heap.get?_push_at rfl rfl
  rw [hst]
  refine kxs_callWith (i := "ValueError.__init__") (x := e) (by show (false || (backTo p4 (starEach es (ksEnv q scope L f (.ref cda) cc))).any (·.1)) = false; rw [hpl]; rfl) ?_
  refine evalArgs_plain ?_
  rw [hst] at hsp
  refine hsp _ _ (hm1.keeps kk) ⟨hu, ?_⟩
  show wpAny _ _ (call (.ref h1.objs.size) us) _ _ _
  refine wpAny_call (codeAny_of_tree ?_)
  show wpAny _ A.in1 (callAny (.ref h1.objs.size) ⟨us, []⟩) _ _ _
  simp only [callAny]
  refine wpAny_bind (wpAny_load hu ?_)
  simp only [kxs_mw, show (Value.type "method-wrapper" == Value.type "method" || Value.type "method-wrapper" == Value.type "builtin_function_or_method" || Value.type "method-wrapper" == Value.type "method-wrapper") = true by decide, if_true]
  refine KFB.if_so (by decide) ?_
  refine wpAny_bind (check_bound_init (F.excBase_ValueError).toExcCallFacts (kk _ _ (X1 _ _ hC)) (kk _ _ he1) rfl ?_)
  refine wpAny_bind (wpAny_pure (wpAny_pure ?_))
  refine ⟨plainId_quiet (F.excBase_ValueError).init.plain _, codeAny_builtin (F.excBase_ValueError).initEntry ?_⟩
  refine exc_init_tree (cls := .ref C) (t0 := t0) (dv := none) (c2 := .none) (c3 := .none) (b4 := .bool false) (kk _ _ he1) (by rw [sizeLine_eq]; omega) fun h3 k3' e3 _ => ?_
  exact h h3 _ (fun b o hb z => k3' b o hb (kk _ _ (k1' _ _ z))) ⟨_, e3⟩
end
end DL
set_option Elab.async false
set_option linter.all false
set_option maxRecDepth 100000
set_option maxHeartbeats 4000000
namespace DL
open PySem PySem.Spec PyProof.Rows L2 PySem.W PySem.Calls NdefX
variable [Tb]
/-! ### the __init__ of an exception class of one's own keeps its promise -/
section
variable {P : Program} {w : World} {K : PySem.W.Frag} {mg : Str → Option Value} {base : Heap}
theorem init_okG {k : Nat} {C fI cda cc : Addr} {name qual file : Str} {tf : Tok} {params : Arguments} {scope : Scope} {N ps : List Str} {sp : Sp} {ar : Arg} {ex : Expr} {es : List Expr} {rest : List Stmt} {p0 p1 p2 p4 p5 : Pos} {oc ct ccl cl doc pm : Value} {an od cdd cld : Option Addr} {osl ccs csl : Array (Option Value)} {cvs : Array Value} {ips : List Str}
    (T : ExcInitC P K C fI ips)
    (lk : K.lookup fI = some ⟨oc, od, .func (fnX name qual params (.Expr (.Call (.Attribute (.Call (.Name "super" p0) [] [] p1) "__init__" p2) (ex :: es) [] p4) p5 :: rest) scope [("__class__", cc)] .none .none doc pm an (.ref cda) ct), osl⟩)
    (hcd : codeIn K (.ref cda) qual = true) (hcode : K.lookup cda = some ⟨ccl, cdd, .fields cvs, ccs⟩) (hvs : cvs[2]? = some (.str file tf)) (hfile : ((P.main.file : Str) == file) = true)
    (hcell : K.lookup cc = some ⟨cl, cld, .cell (some (.ref C)), csl⟩) (hsm : mg "super" = none)
    (S : NScope N ps ["__class__"] scope) (hp : (params.posonlyargs ++ params.args).head? = some ar) (har : ps.head? = some ar.arg) (hnd : ps.Nodup)
    (hks : scope.names.lookup ("super" : Str) = some .globalImplicit) (htop : (P.main.scope.names.lookup ("super" : Str)).isSome = false)
    (hst : ∀ L, starEach (ex :: es) (ksEnv qual scope L fI (.ref cda) cc) = (false, eval ex (ksEnv qual scope L fI (.ref cda) cc)) :: starEach es (ksEnv qual scope L fI (.ref cda) cc))
    (hpl : ∀ L, (backTo p4 (starEach es (ksEnv qual scope L fI (.ref cda) cc))).any (·.1) = false)
    (hargs : ∀ (us : List Value) (A : Around) (L : Addr) (s1 : Shared) (Q : List Value → Shared → Prop) (E : Value → Shared → Prop), us.length = ps.length → s1.heap.Ns L (fun y => (ps.zip us).reverse.lookup y) → Q us.tail s1 → wpAny (model P w) A (spliced (backTo p4 (starEach (ex :: es) (ksEnv qual scope L fI (.ref cda) cc)))) Q E s1)
    (hev : ∀ L, ∃ pl, eval (.Call (.Attribute (.Call (.Name "super" p0) [] [] p1) "__init__" p2) (ex :: es) [] p4) (ksEnv qual scope L fI (.ref cda) cc) = (do
      let ov ← attributeBase (.Call (.Name "super" p0) [] [] p1) "__init__" (ksEnv qual scope L fI (.ref cda) cc) (eval (.Call (.Name "super" p0) [] [] p1) (ksEnv qual scope L fI (.ref cda) cc))
      standAt p2.atName
      let (f, first) ← holding [ov] (getMethod ov "__init__" pl)
      callWith p4 f first (backTo p4 (starEach (ex :: es) (ksEnv qual scope L fI (.ref cda) cc))) []))
    (hsw : ∀ L, swapsWith (.Call (.Attribute (.Call (.Name "super" p0) [] [] p1) "__init__" p2) (ex :: es) [] p4) none p5.line (ksEnv qual scope L fI (.ref cda) cc) = pure false)
    (hin : ∀ L, interactive (ksEnv qual scope L fI (.ref cda) cc) = false)
    (hspl : ∀ vs H Q E, sp vs H Q E → vs.length = ps.length ∧ ps.length ≤ 1000 ∧ ∃ a r, vs = .ref a :: r ∧ H a = some (exo a C none))
    (hrest : ∀ (A : Around) (outer : List Env) (s : Shared) (H : Hp) (vs : List V) (Q : VK) (E : XK), sp vs H Q E →
      ∃ t, PSs (ncx CX0 P w K mg base N ⟨name, qual, params, .Expr (.Call (.Attribute (.Call (.Name "super" p0) [] [] p1) "__init__" p2) (ex :: es) [] p4) p5 :: rest, scope, [("__class__", cc)], cda⟩ fI A outer s H E) rest t ∧ t { nx := fun _ H' => Q .non H', rt := Q } (startF N vs [none]) H) :
    FnOk P w K mg base CX0 (k + 1) fI (fnX name qual params (.Expr (.Call (.Attribute (.Call (.Name "super" p0) [] [] p1) "__init__" p2) (ex :: es) [] p4) p5 :: rest) scope [("__class__", cc)] .none .none doc pm an (.ref cda) ct) ps sp := by
  refine ⟨fun vs H Q E h => (hspl vs H Q E h).1, fun A outer s H args us vs Q E hr e0 hb r hsp => ?_⟩
  obtain ⟨hl, hn, a, rvs, ev, ea⟩ := hspl _ _ _ _ hsp
  have X : K.In s.heap := e0.mod.kin.keeps fun b o e => (e0.bs b o e).1
  have lim : s.heap.NoLimit := e0.mod.nolimit.keeps fun b o e => (e0.bs b o e).1
  have hul : us.length = ps.length := by rw [← r.length]; exact hl
  obtain ⟨t, ht, hq⟩ := hrest A outer s H vs Q E hsp
  obtain ⟨us0, ur, eus, ru0⟩ : ∃ u0 ur, us = u0 :: ur ∧ u0 = Value.ref a := by
    rw [ev] at r
    cases r with
    | @cons _ u0 _ ur ra rw' => exact ⟨u0, ur, rfl, ra⟩
  subst ru0
  refine ks_codeAny_call_defAt hr.depth (X _ _ lk) rfl lim (PySem.W.codeRec_of X hcd) rfl hb S.nocell (fun ⟨n, _⟩ hy => S.par n (List.of_mem_zip hy).1) (fun h₁ hns kp => ?_) S.co S.gen S.kind
  show _root_.PySem.wpAt (model P w) (A.deeper (ksEnv qual scope s.heap.objs.size fI (.ref cda) cc)) (.func _ (ksEnv qual scope s.heap.objs.size fI (.ref cda) cc)) (execs _ (ksEnv qual scope s.heap.objs.size fI (.ref cda) cc)) _ _ _
  have C0 : CellsAt [("__class__", cc)] ["__class__"] [none] s.heap H := by
    obtain ⟨o1, o2⟩ : (∃ o, base.get? cc = some o ∧ o = ⟨cl, cld, .cell (some (.ref C)), csl⟩) ∧ H cc = none := ⟨⟨_, e0.mod.kin _ _ hcell, rfl⟩, (e0.bs _ _ (e0.mod.kin _ _ hcell)).2⟩
    refine ⟨rfl, fun y c e => ?_, fun x y c e1 e2 => ?_, fun i y e => ?_⟩
    · have : c = cc := by
        simp only [List.lookup] at e
        split at e
        · exact (Option.some.inj e).symm
        · cases e
      subst this
      exact ⟨o2, _, _, X _ _ hcell, rfl⟩
    · have key : ∀ {z : Str}, List.lookup z [(("__class__" : Str), cc)] = some c → z = "__class__" := fun {z} e => by
        simp only [List.lookup] at e
        split at e
        · rename_i q; simpa using q
        · cases e
      rw [key e1, key e2]
    · cases i with
      | zero =>
        have : y = "__class__" := by simpa using e.symm
        subst this
        exact ⟨cc, by simp [List.lookup], fun v e => by simp at e⟩
      | succ i => simp at e
  have I : Inv (ncx CX0 P w K mg base N ⟨name, qual, params, .Expr (.Call (.Attribute (.Call (.Name "super" p0) [] [] p1) "__init__" p2) (ex :: es) [] p4) p5 :: rest, scope, [("__class__", cc)], cda⟩ fI A outer s H E) [] (startF N vs [none]) H { s with heap := h₁, toks := s.toks + (ps.zip us).length } := inv_startN S hr.hd e0 hl r C0 hns kp
  obtain ⟨t1, hoe⟩ := exo_at I.hok ea
  obtain ⟨mb, hB, hbs⟩ := e0.mod.blt
  obtain ⟨pl, he⟩ := hev s.heap.objs.size
  refine ks_wpAt_execs_cons (ks_wpAt_Expr_any (ks_wpAt_MethodCall ?_ he) (hin _) (hsw _))
  have kb : ∀ b o, base.get? b = some o → h₁.get? b = some o := fun b o e => kp _ _ (e0.bs b o e).1
  refine wp_super_init (m := fun y => (ps.zip us).reverse.lookup y) (mg := mg) (mb := mb) (us := ur) (e := a) (t0 := t1) (L := s.heap.objs.size) (X.keeps kp) T hns (e0.mod.glob.keeps kb) hsm (hB.keeps kb) (by rw [hbs _ (by decide)]; rfl) lk hp ?_ hoe hcode hvs hfile hcell hks (S.frk _ (by simp)) (S.par _ (List.mem_of_head? har)) S.kind htop (by have : us.length = ps.length := hul; rw [eus] at this; simp at this; omega) (hst _) (hpl _) (fun s1 Q2 hn2 q2 => hargs us _ _ s1 Q2 _ hul hn2 (by rw [eus]; exact q2)) ?_
  · rw [eus]
    cases ps with
    | nil => cases har
    | cons p0' ps' =>
      have : p0' = ar.arg := Option.some.inj har
      subst this
      exact zip_look (i := 0) hnd rfl rfl
  · intro h' t' kk ⟨t2, he'⟩
    refine wpAt_of_wpAny ?_
    have J := I.write (t' := t') (x := a) (e := a) (o := exo a C none) (by rw [ea]; exact True.intro) (.inl rfl) (fun b o e1 e2 => kk b o e1 e2) ⟨_, he'⟩ (exo_ok he')
    have eu : upd H a (exo a C none) = H := by
      funext b
      by_cases hb : b = a
      · rw [hb, upd_same, ea]
      · rw [upd_ne hb]
    rw [eu] at J
    refine wpAny_mono (ht.run [] _ (startF N vs [none]) H _ J hq) (fun fl s' hs => ?_) fun e s' hs => hs
    have fin : ∀ {σ' : L2.St} {H' : Hp} {v : V} {u : Value}, Inv (ncx CX0 P w K mg base N ⟨name, qual, params, .Expr (.Call (.Attribute (.Call (.Name "super" p0) [] [] p1) "__init__" p2) (ex :: es) [] p4) p5 :: rest, scope, [("__class__", cc)], cda⟩ fI A outer s H E) [] σ' H' s' → L2.RelV v u → Q v H' → CE outer P w H s Q u s' :=
      fun {σ' H' v u} J rv q => ⟨v, H', J.os, J.bare, J.base, J.hok, rv, q⟩
    cases fl with
    | ret u =>
      obtain ⟨v, σ', H', J, rv, q⟩ := hs
      exact fin J rv q
    | next =>
      obtain ⟨σ', H', J, q⟩ := hs
      exact fin (v := V.non) (u := Value.none) J rfl q
    | brk =>
      obtain ⟨_, _, _, q⟩ := hs
      exact False.elim q
    | cont =>
      obtain ⟨_, _, _, q⟩ := hs
      exact False.elim q
/-- __init__(self, x): super().__init__(x); self.x = x -/
def spI1 (C : Addr) (x : Str) : Sp := fun vs H Q _ => ∃ (a : Addr) (v : V), vs = [.ref a, v] ∧ H a = some (exo a C none) ∧ ∀ dx, H dx = none → dx ≠ a → Q .non (upd (upd H dx (exd dx [(x, v)])) a (exo a C (some dx)))
def spI2 (C : Addr) (x y : Str) : Sp := fun vs H Q _ => ∃ (a : Addr) (v u : V), vs = [.ref a, v, u] ∧ H a = some (exo a C none) ∧ ∀ dx, H dx = none → dx ≠ a → Q .non (upd (upd (upd H dx (exd dx [(x, v)])) a (exo a C (some dx))) dx (exd dx [(y, u), (x, v)]))
/-- what the written part tells of the __init__ of the class C -/
structure IniC (P : Program) (K : PySem.W.Frag) (mg : Str → Option Value) (C fI cda cc : Addr) (qual : Str) (params : Arguments) (scope : Scope) (N ps : List Str) (ex : Expr) (es : List Expr) (p0 p1 p2 p4 p5 : Pos) : Prop where
  T : ExcInitC P K C fI []
  hcd : codeIn K (.ref cda) qual = true
  hcode : ∃ ccl cdd cvs ccs file tf, K.lookup cda = some ⟨ccl, cdd, .fields cvs, ccs⟩ ∧ cvs[2]? = some (.str file tf) ∧ ((P.main.file : Str) == file) = true
  hcell : ∃ cl cld csl, K.lookup cc = some ⟨cl, cld, .cell (some (.ref C)), csl⟩
  hsm : mg "super" = none
  S : NScope N ps ["__class__"] scope
  hp : ∃ ar, (params.posonlyargs ++ params.args).head? = some ar ∧ ps.head? = some ar.arg
  hnd : ps.Nodup
  hks : scope.names.lookup ("super" : Str) = some .globalImplicit
  htop : (P.main.scope.names.lookup ("super" : Str)).isSome = false
  hst : ∀ L, starEach (ex :: es) (ksEnv qual scope L fI (.ref cda) cc) = (false, eval ex (ksEnv qual scope L fI (.ref cda) cc)) :: starEach es (ksEnv qual scope L fI (.ref cda) cc)
  hpl : ∀ L, (backTo p4 (starEach es (ksEnv qual scope L fI (.ref cda) cc))).any (·.1) = false
  hev : ∀ L, ∃ pl, eval (.Call (.Attribute (.Call (.Name "super" p0) [] [] p1) "__init__" p2) (ex :: es) [] p4) (ksEnv qual scope L fI (.ref cda) cc) = (do
      let ov ← attributeBase (.Call (.Name "super" p0) [] [] p1) "__init__" (ksEnv qual scope L fI (.ref cda) cc) (eval (.Call (.Name "super" p0) [] [] p1) (ksEnv qual scope L fI (.ref cda) cc))
      standAt p2.atName
      let (f, first) ← holding [ov] (getMethod ov "__init__" pl)
      callWith p4 f first (backTo p4 (starEach (ex :: es) (ksEnv qual scope L fI (.ref cda) cc))) [])
  hsw : ∀ L, swapsWith (.Call (.Attribute (.Call (.Name "super" p0) [] [] p1) "__init__" p2) (ex :: es) [] p4) none p5.line (ksEnv qual scope L fI (.ref cda) cc) = pure false
  hin : ∀ L, interactive (ksEnv qual scope L fI (.ref cda) cc) = false
theorem init_ok1 {k : Nat} {C fI cda cc : Addr} {name qual x : Str} {params : Arguments} {scope : Scope} {p0 p1 p2 p3 p4 p5 q0 q1 q2 q3 : Pos} {oc ct doc pm : Value} {an od : Option Addr} {osl : Array (Option Value)}
    (lk : K.lookup fI = some ⟨oc, od, .func (fnX name qual params [.Expr (.Call (.Attribute (.Call (.Name "super" p0) [] [] p1) "__init__" p2) [.Name x p3] [] p4) p5, .Assign [.Attribute (.Name "self" q0) x q1] (.Name x q2) q3] scope [("__class__", cc)] .none .none doc pm an (.ref cda) ct), osl⟩)
    (I : IniC P K mg C fI cda cc qual params scope ["self", x, "__class__"] ["self", x] (.Name x p3) [] p0 p1 p2 p4 p5) (hf : findIn K (.ref C) x = some none) (hdx : (x == ("__debug__" : Str)) = false) (hdc : (x == ("__classdict__" : Str)) = false)
    (hsw : ∀ env : Env, swapsWith (.Name x q2) (some (.Attribute (.Name "self" q0) x q1)) q3.line env = pure false) :
    FnOk P w K mg base CX0 (k + 1) fI (fnX name qual params [.Expr (.Call (.Attribute (.Call (.Name "super" p0) [] [] p1) "__init__" p2) [.Name x p3] [] p4) p5, .Assign [.Attribute (.Name "self" q0) x q1] (.Name x q2) q3] scope [("__class__", cc)] .none .none doc pm an (.ref cda) ct) ["self", x] (spI1 C x) := by
  obtain ⟨ccl, cdd, cvs, ccs, file, tf, c1, c2, c3⟩ := I.hcode
  obtain ⟨cl, cld, csl, c4⟩ := I.hcell
  obtain ⟨ar, a1, a2⟩ := I.hp
  refine init_okG I.T lk I.hcd c1 c2 c3 c4 I.hsm I.S a1 a2 I.hnd I.hks I.htop I.hst I.hpl (fun us A L s1 Q E hl hns q => ?_) I.hev I.hsw I.hin (fun vs H Q E ⟨a, v, e1, e2, _⟩ => ⟨by rw [e1]; rfl, by simp, a, [v], e1, e2⟩) fun A outer s H vs Q E ⟨a, v, e1, e2, q⟩ => ?_
  · match us, hl with
    | [u0, u1], _ =>
      have nd : x ≠ "self" := fun e => by
        have := I.hnd
        rw [e] at this
        simp at this
      refine PyProof.Rows.spliced_more ?_
      refine wpAny_Name (wpAny_loadName_local I.S.kind (I.S.par x (by simp)) hns (zip_look (i := 1) I.hnd rfl rfl) ?_) hdx
      exact spliced_none q
  · refine ⟨_, pss_one (ps_ost (pe_var (i := 0) rfl (.inl (I.S.par "self" (by simp)))) (pe_var (i := 1) rfl (.inl (I.S.par x (by simp))) hdx hdc) (hsw _)), ?_⟩
    subst e1
    refine ⟨v, rfl, .ref a, rfl, a, C, rfl, I.T.T, hf, .inl ⟨e2, fun dx n1 n2 => q dx n1 n2⟩⟩
theorem init_ok2 {k : Nat} {C fI cda cc : Addr} {name qual x y : Str} {params : Arguments} {scope : Scope} {p0 p1 p2 p3 p3' p4 p5 q0 q1 q2 q3 r0 r1 r2 r3 : Pos} {oc ct doc pm : Value} {an od : Option Addr} {osl : Array (Option Value)}
    (lk : K.lookup fI = some ⟨oc, od, .func (fnX name qual params [.Expr (.Call (.Attribute (.Call (.Name "super" p0) [] [] p1) "__init__" p2) [.Name x p3, .Name y p3'] [] p4) p5, .Assign [.Attribute (.Name "self" q0) x q1] (.Name x q2) q3, .Assign [.Attribute (.Name "self" r0) y r1] (.Name y r2) r3] scope [("__class__", cc)] .none .none doc pm an (.ref cda) ct), osl⟩)
    (I : IniC P K mg C fI cda cc qual params scope ["self", x, y, "__class__"] ["self", x, y] (.Name x p3) [.Name y p3'] p0 p1 p2 p4 p5) (hf : findIn K (.ref C) x = some none) (hg : findIn K (.ref C) y = some none) (hdx : (x == ("__debug__" : Str)) = false) (hdc : (x == ("__classdict__" : Str)) = false) (hdx' : (y == ("__debug__" : Str)) = false) (hdc' : (y == ("__classdict__" : Str)) = false)
    (hsw : ∀ env : Env, swapsWith (.Name x q2) (some (.Attribute (.Name "self" q0) x q1)) q3.line env = pure false) (hsw' : ∀ env : Env, swapsWith (.Name y r2) (some (.Attribute (.Name "self" r0) y r1)) r3.line env = pure false) :
    FnOk P w K mg base CX0 (k + 1) fI (fnX name qual params [.Expr (.Call (.Attribute (.Call (.Name "super" p0) [] [] p1) "__init__" p2) [.Name x p3, .Name y p3'] [] p4) p5, .Assign [.Attribute (.Name "self" q0) x q1] (.Name x q2) q3, .Assign [.Attribute (.Name "self" r0) y r1] (.Name y r2) r3] scope [("__class__", cc)] .none .none doc pm an (.ref cda) ct) ["self", x, y] (spI2 C x y) := by
  obtain ⟨ccl, cdd, cvs, ccs, file, tf, c1, c2, c3⟩ := I.hcode
  obtain ⟨cl, cld, csl, c4⟩ := I.hcell
  obtain ⟨ar, a1, a2⟩ := I.hp
  refine init_okG I.T lk I.hcd c1 c2 c3 c4 I.hsm I.S a1 a2 I.hnd I.hks I.htop I.hst I.hpl (fun us A L s1 Q E hl hns q => ?_) I.hev I.hsw I.hin (fun vs H Q E ⟨a, v, u, e1, e2, _⟩ => ⟨by rw [e1]; rfl, by simp, a, [v, u], e1, e2⟩) fun A outer s H vs Q E ⟨a, v, u, e1, e2, q⟩ => ?_
  · match us, hl with
    | [u0, u1, u2], _ =>
      refine PyProof.Rows.spliced_more ?_
      refine wpAny_Name (wpAny_loadName_local I.S.kind (I.S.par x (by simp)) hns (zip_look (i := 1) I.hnd rfl rfl) ?_) hdx
      refine PyProof.Rows.spliced_more ?_
      refine wpAny_Name (wpAny_loadName_local I.S.kind (I.S.par y (by simp)) hns (zip_look (i := 2) I.hnd rfl rfl) ?_) hdx'
      exact spliced_none q
  · refine ⟨_, pss_cons (ps_ost (pe_var (i := 0) rfl (.inl (I.S.par "self" (by simp)))) (pe_var (i := 1) rfl (.inl (I.S.par x (by simp))) hdx hdc) (hsw _)) (pss_one (ps_ost (pe_var (i := 0) rfl (.inl (I.S.par "self" (by simp)))) (pe_var (i := 2) rfl (.inl (I.S.par y (by simp))) hdx' hdc') (hsw' _))), ?_⟩
    subst e1
    refine ⟨v, rfl, .ref a, rfl, a, C, rfl, I.T.T, hf, .inl ⟨e2, fun dx n1 n2 => ?_⟩⟩
    refine ⟨u, rfl, .ref a, rfl, a, C, rfl, I.T.T, hg, .inr ⟨dx, [(x, v)], upd_same, by rw [upd_ne n2, upd_same], by simp, q dx n1 n2⟩⟩
end
end DL
set_option Elab.async false
set_option linter.all false
set_option maxRecDepth 100000
set_option maxHeartbeats 4000000
namespace DL
open PySem PySem.Spec PyProof.Rows L2
variable [Tb]
/-! ### what may raise: judgements beside the others -/
abbrev XNames := List (Str × Addr)
/-- a class of the list -/
def ExcR (K : PySem.W.Frag) (TL : XNames) (G : Hp) (cls : Value) (d : Option Addr) (x : PyData) : Prop := ExcAt K G cls d x ∧ ∃ n C, (n, C) ∈ TL ∧ cls = .ref C
def wxOf (K : PySem.W.Frag) (TL : XNames) (B G : Hp) (rt : PyData → DS → Prop) : WX := fun cls d σ H => ∃ G' δ' x, rt x δ' ∧ Same G G' ∧ Rel K B G' δ' σ H ∧ ExcR K TL G' cls d x
theorem wx_mono {K : PySem.W.Frag} {TL : XNames} {B G G' : Hp} {rt : PyData → DS → Prop} (s : Same G G') : ∀ c d σ H, wxOf K TL B G' rt c d σ H → wxOf K TL B G rt c d σ H := fun c d σ H ⟨G2, δ', x, h1, h2, h3, h4⟩ => ⟨G2, δ', x, h1, s.trans h2, h3, h4⟩
structure EndsX (X : Cx) (TL : XNames) (B G : Hp) (E : DEnds) (D : Ends) : Prop extends EndsOk X.K B G E D where
  tk : L2N.Takes X (wxOf X.K TL B G E.rt)
theorem EndsX.mono {X : Cx} {TL : XNames} {B G G' : Hp} {E : DEnds} {D : Ends} (h : EndsX X TL B G E D) (s : Same G G') : EndsX X TL B G' E D := ⟨h.toEndsOk.mono s, h.tk.imp (wx_mono s)⟩
def upSX (X : Cx) (TL : XNames) (w : DTS) : TS := fun D σ H => ∃ B G δ E, Rel X.K B G δ σ H ∧ w E δ ∧ EndsX X TL B G E D
abbrev JSX (X : Cx) (TL : XNames) (st : Stmt) (w : DTS) : Prop := PS X st (upSX X TL w)
abbrev JSsX (X : Cx) (TL : XNames) (st : List Stmt) (w : DTS) : Prop := PSs X st (upSX X TL w)
/-- expressions that may raise: Z is what is wished of an exception -/
abbrev DEX := DS → (Opd → DS → Prop) → (PyData → DS → Prop) → Prop
abbrev DAX := DS → (List Opd → DS → Prop) → (PyData → DS → Prop) → Prop
abbrev DTX := DS → (Bool → DS → Prop) → (PyData → DS → Prop) → Prop
def upX (X : Cx) (TL : XNames) (w : DEX) : TE := fun σ H Q => ∃ B G δ R Z, Rel X.K B G δ σ H ∧ w δ R Z ∧ (∀ v H' G' o δ', R o δ' → Same G G' → Rel X.K B G' δ' σ H' → OpdOk X.K G' σ v o → Q v H') ∧ L2N.Takes X (wxOf X.K TL B G Z)
def upAX (X : Cx) (TL : XNames) (w : DAX) : TA := fun σ H Q => ∃ B G δ R Z, Rel X.K B G δ σ H ∧ w δ R Z ∧ (∀ vs H' G' os δ', R os δ' → Same G G' → Rel X.K B G' δ' σ H' → OpdsOk X.K G' σ vs os → Q vs H') ∧ L2N.Takes X (wxOf X.K TL B G Z)
def upTX (X : Cx) (TL : XNames) (w : DTX) : TT := fun σ H Q => ∃ B G δ R Z, Rel X.K B G δ σ H ∧ w δ R Z ∧ (∀ b H' G' δ', R b δ' → Same G G' → Rel X.K B G' δ' σ H' → Q b H') ∧ L2N.Takes X (wxOf X.K TL B G Z)
abbrev JEX (X : Cx) (TL : XNames) (e : Expr) (w : DEX) : Prop := PE X e (upX X TL w)
abbrev JAX (X : Cx) (TL : XNames) (es : List Expr) (w : DAX) : Prop := PA X es (upAX X TL w)
abbrev JTX (X : Cx) (TL : XNames) (e : Expr) (w : DTX) : Prop := PT X e (upTX X TL w)
section
variable {X : Cx} {TL : XNames} {st : Stmt} {rest es : List Stmt} {e : Expr} {pos : Pos}
/-! statements -/
theorem jsx_of {w : DTS} (h : JS X st w) : JSX X TL st w := ps_le h fun pins s σ H D I ⟨B, G, δ, E, rel, hw, k⟩ => ⟨B, G, δ, E, rel, hw, k.toEndsOk⟩
theorem jssx_of {w : DTS} (h : JSs X rest w) : JSsX X TL rest w := pss_le h fun pins s σ H D I ⟨B, G, δ, E, rel, hw, k⟩ => ⟨B, G, δ, E, rel, hw, k.toEndsOk⟩
theorem jssx_cons {t u : DTS} (h1 : JSX X TL st t) (h2 : JSsX X TL rest u) : JSsX X TL (st :: rest) (wSeq t u) := pss_le (pss_cons h1 h2) fun pins s σ H D I ⟨B, G, δ, E, rel, hw, k⟩ =>
  ⟨B, G, δ, _, rel, hw, ⟨fun σ' H' G' δ' r s1 rel1 => ⟨B, G', δ', E, rel1, r, k.mono s1⟩, k.rt, k.bk, k.ct⟩, k.tk⟩
theorem jssx_one {t : DTS} (h : JSX X TL st t) : JSsX X TL [st] t := pss_one h
theorem jsx_if {c : Expr} {p q : List Stmt} {tc : DT} {t u : DTS} (hc : JT X c tc) (hp : JSsX X TL p t) (hq : JSsX X TL q u) : JSX X TL (.If c p q pos) (wIf tc t u) := ps_le (ps_if hc hp hq) fun pins s σ H D I ⟨B, G, δ, E, rel, hw, k⟩ => ⟨B, G, δ, _, rel, hw, fun b H1 G1 δ1 r1 s1 rel1 => by
  cases b with
  | true => rw [if_pos rfl] at r1 ⊢; exact ⟨B, G1, δ1, E, rel1, r1, k.mono s1⟩
  | false => rw [if_neg Bool.false_ne_true] at r1 ⊢; exact ⟨B, G1, δ1, E, rel1, r1, k.mono s1⟩⟩
theorem jsx_for {tg iter : Expr} {body : List Stmt} {wi : DL} {g : DTG} {b : DTS} {ts : List Nat} (hp : PassesOwn (model X.prog X.w) X.A X.env X.xe) (hc : X.calm = true) (hi : JI X tg iter wi) (hg : JG X tg ts g) (hb : JSsX X TL body b)
    (hs : ∀ x, foldedSetIterable iter X.env x = pure x := by intro _; rfl) : JSX X TL (.For tg iter body [] pos) (wFor wi g b) := ps_le (ps_for hp hc hi hg hb hs) fun pins s σ H D I ⟨B, G, δ, E, rel, hw, k⟩ => by
  refine ⟨B, G, δ, _, rel, hw, fun J H1 G1 xs δ1 r1 s1 rel1 wk hl => ?_⟩
  refine ⟨fun i m σ' H' => m = xs.length - i ∧ i ≤ xs.length ∧ ∃ G2 δ2, Same G1 G2 ∧ Rel X.K B G2 δ2 σ' H' ∧ forIt g b (xs.drop i) E δ2, ⟨xs.length, by simp, Nat.zero_le _, G1, δ1, Same.refl _, rel1, by simpa using r1⟩, ?_⟩
  rintro i m σ2 H2 ⟨rfl, hi', G2, δ2, s2, rel2, q⟩
  obtain ⟨go, stop, yld⟩ := wk B G2 δ2 σ2 H2 s2 rel2
  by_cases hlt : i < xs.length
  · have ed : xs.drop i = xs[i] :: xs.drop (i + 1) := List.drop_eq_getElem_cons hlt
    rw [ed] at q
    refine .inr ⟨go i hlt, fun σ' H' => ∃ G3 δ3, Same G1 G3 ∧ Rel X.K B G3 δ3 σ' H' ∧ forIt g b (xs.drop (i + 1)) E δ3, fun σ' H' ⟨G3, δ3, s3, rel3, q3⟩ => ⟨xs.length - (i + 1), by omega, rfl, hlt, G3, δ3, s3, rel3, q3⟩, fun x H3 y => ?_⟩
    obtain ⟨G3, s3, rel3, dn⟩ := yld i x _ H3 (List.getElem?_eq_getElem hlt) y
    refine ⟨B, G3, δ2, _, _, rel3, dn, q, fun σ4 H4 G4 δ4 r4 s4 rel4 _ => ?_⟩
    have sa := s1.trans (s2.trans (s3.trans s4))
    exact ⟨B, G4, δ4, _, rel4, r4, ⟨fun σ' H' G5 δ5 r5 s5 rel5 => ⟨G5, δ5, s2.trans (s3.trans (s4.trans s5)), rel5, r5⟩, fun v σ' H' G5 x5 δ5 r5 s5 rel5 d5 => k.rt v σ' H' G5 x5 δ5 r5 (sa.trans s5) rel5 d5,
      fun σ' H' G5 δ5 r5 s5 rel5 => k.nx σ' H' G5 δ5 r5 (sa.trans s5) rel5, fun σ' H' G5 δ5 r5 s5 rel5 => ⟨G5, δ5, s2.trans (s3.trans (s4.trans s5)), rel5, r5⟩⟩, k.tk.imp (wx_mono sa)⟩
  · obtain rfl : i = xs.length := by omega
    rw [List.drop_length] at q
    exact .inl ⟨stop, k.nx σ2 H2 G2 δ2 q (s1.trans s2) rel2⟩
theorem jsx_while {c : Expr} {body : List Stmt} {tc : DT} {b : DTS} (hp : PassesOwn (model X.prog X.w) X.A X.env X.xe) (hc : JT X c tc) (hb : JSsX X TL body b) : JSX X TL (.While c body [] pos) (wWhile tc b) := ps_le (ps_while hp hc hb) fun pins s σ H D I ⟨B, G, δ, E, rel, ⟨W, ⟨m0, w0⟩, turn⟩, k⟩ => by
  refine ⟨fun m σ' H' => ∃ G2 δ2, Same G G2 ∧ Rel X.K B G2 δ2 σ' H' ∧ W m δ2, ⟨m0, G, δ, Same.refl _, rel, w0⟩, ?_⟩
  rintro m σ2 H2 ⟨G2, δ2, s2, rel2, q⟩
  refine ⟨B, G2, δ2, _, rel2, turn m δ2 q, fun kb H3 G3 δ3 r3 s3 rel3 => ?_⟩
  cases kb with
  | false => rw [if_neg Bool.false_ne_true] at r3 ⊢; exact k.nx σ2 H3 G3 δ3 r3 (s2.trans s3) rel3
  | true =>
    rw [if_pos rfl] at r3 ⊢
    have sa := s2.trans s3
    refine ⟨fun σ' H' => ∃ G4 δ4, Same G G4 ∧ Rel X.K B G4 δ4 σ' H' ∧ ∃ m', m' < m ∧ W m' δ4, fun σ' H' ⟨G4, δ4, s4, rel4, m', hm, w4⟩ => ⟨m', hm, G4, δ4, s4, rel4, w4⟩, B, G3, δ3, _, rel3, r3, ?_⟩
    exact ⟨⟨fun σ' H' G5 δ5 r5 s5 rel5 => ⟨G5, δ5, sa.trans s5, rel5, r5⟩, fun v σ' H' G5 x5 δ5 r5 s5 rel5 d5 => k.rt v σ' H' G5 x5 δ5 r5 (sa.trans s5) rel5 d5, fun σ' H' G5 δ5 r5 s5 rel5 => k.nx σ' H' G5 δ5 r5 (sa.trans s5) rel5, fun σ' H' G5 δ5 r5 s5 rel5 => ⟨G5, δ5, sa.trans s5, rel5, r5⟩⟩, k.tk.imp (wx_mono sa)⟩
/-! expressions -/
theorem jex_of {w : DE} (h : JE X e w) : JEX X TL e (fun δ R _ => w δ R) := pe_le h fun pins s σ H Q I ⟨B, G, δ, R, Z, rel, hw, k, tk⟩ => ⟨B, G, δ, R, rel, hw, k⟩
theorem jtx_of {w : DT} (h : JT X e w) : JTX X TL e (fun δ R _ => w δ R) := pt_le h fun pins s σ H Q I ⟨B, G, δ, R, Z, rel, hw, k, tk⟩ => ⟨B, G, δ, R, rel, hw, k⟩
theorem takes_no : L2N.Takes X (fun _ _ _ _ => False) := fun _ _ ⟨_, _, _, _, _, _, _, _, _, _, _, _, _, _, _, _, w⟩ => w.elim
/-- where nothing is raised -/
theorem je_ofX {w : DEX} (h : JEX X TL e w) : JE X e (fun δ R => w δ R fun _ _ => False) := pe_le h fun pins s σ H Q I ⟨B, G, δ, R, rel, hw, k⟩ => ⟨B, G, δ, R, _, rel, hw, k, takes_no.imp fun c d σ H ⟨_, _, _, q, _⟩ => q⟩
def axNil : DAX := fun δ R _ => R [] δ
def axCons (w : DEX) (r : DAX) : DAX := fun δ R Z => w δ (fun o δ1 => r δ1 (fun os δ2 => R (o :: os) δ2) Z) Z
theorem jax_nil : JAX X TL [] axNil := pa_le pa_nil fun pins s σ H Q I ⟨B, G, δ, R, Z, rel, hw, k, tk⟩ => k [] H G [] δ hw (Same.refl _) rel .nil
theorem jax_cons {e : Expr} {es : List Expr} {w : DEX} {r : DAX} (ha : JEX X TL e w) (hr : JAX X TL es r) (hs : starEach (e :: es) X.env = (false, eval e X.env) :: starEach es X.env := by rfl) : JAX X TL (e :: es) (axCons w r) :=
  pa_le (pa_cons ha hr hs) fun pins s σ H Q I ⟨B, G, δ, R, Z, rel, hw, k, tk⟩ =>
    ⟨B, G, δ, _, Z, rel, hw, fun v H1 G1 o δ1 r1 s1 rel1 ok1 => ⟨B, G1, δ1, _, Z, rel1, r1, fun vs H2 G2 os δ2 r2 s2 rel2 ok2 => k (v :: vs) H2 G2 _ _ r2 (s1.trans s2) rel2 (.cons (ok1.mono s2) ok2), tk.imp (wx_mono s1)⟩, tk⟩
def wTupX (w : DAX) : DEX := fun δ R Z => w δ (fun os δ1 => lkL os δ1 fun xs δ2 => xs.length ≤ 1000 ∧ R (.d (.tuple xs)) δ2) Z
theorem jex_tup {es : List Expr} {w : DAX} {x1} (h : JAX X TL es w) : JEX X TL (.Tuple es x1 pos) (wTupX w) :=
  pe_le (pe_tup h) fun pins s σ H Q I ⟨B, G, δ, R, Z, rel, hw, k, tk⟩ => ⟨B, G, δ, _, Z, rel, hw, fun vs H1 G1 os δ1 r1 s1 rel1 ok1 => by
    obtain ⟨G2, δ2, xs, ⟨hl, q⟩, s2, rel2, t⟩ := lkL_ok rel1 ok1 r1
    refine ⟨by rw [t.len]; exact le_line hl, fun p np => ?_⟩
    obtain ⟨rel3, s3⟩ := rel2.laid (o := .tup vs) np
    exact k _ _ _ _ _ q (s1.trans (s2.trans s3)) rel3 (Dn.tup upd_same (t.mono s3)), tk⟩
def wLstX (w : DAX) : DEX := fun δ R Z => w δ (fun os δ1 => lkL os δ1 fun xs δ2 => xs.length ≤ 1000 ∧ R (.d (.list xs)) δ2) Z
theorem jex_lst {es : List Expr} {w : DAX} (h : JAX X TL es w) : JEX X TL (.List es pos) (wLstX w) :=
  pe_le (pe_lst h) fun pins s σ H Q I ⟨B, G, δ, R, Z, rel, hw, k, tk⟩ => ⟨B, G, δ, _, Z, rel, hw, fun vs H1 G1 os δ1 r1 s1 rel1 ok1 => by
    obtain ⟨G2, δ2, xs, ⟨hl, q⟩, s2, rel2, t⟩ := lkL_ok rel1 ok1 r1
    refine ⟨by rw [t.len]; exact le_line hl, fun p np => ?_⟩
    obtain ⟨rel3, s3⟩ := rel2.laid (o := .lst vs) np
    exact k _ _ _ _ _ q (s1.trans (s2.trans s3)) rel3 (Dn.lst upd_same (t.mono s3)), tk⟩
/-! statements with them -/
def wRetX (w : DEX) : DTS := fun E δ => w δ (fun o δ1 => lk o δ1 fun x δ2 => E.rt x δ2) E.rt
theorem jsx_ret {w : DEX} (h : JEX X TL e w) : JSX X TL (.Return (some e) pos) (wRetX w) := ps_le (ps_ret h) fun pins s σ H D I ⟨B, G, δ, E, rel, hw, k⟩ => ⟨B, G, δ, _, E.rt, rel, hw, fun v H1 G1 o δ1 r1 s1 rel1 ok1 => by
  obtain ⟨G2, δ2, x, q, s2, rel2, dn⟩ := lk_ok rel1 ok1 r1
  exact k.rt v σ H1 G2 x δ2 q (s1.trans s2) rel2 dn, k.tk⟩
def wDropX (w : DEX) : DTS := fun E δ => w δ (fun _ δ1 => E.nx δ1) E.rt
theorem jsx_expr {w : DEX} (h : JEX X TL e w) (hs : swapsWith e none pos.line X.env = pure false := by rfl) : JSX X TL (.Expr e pos) (wDropX w) := ps_le (ps_expr h hs) fun pins s σ H D I ⟨B, G, δ, E, rel, hw, k⟩ => ⟨B, G, δ, _, E.rt, rel, hw, fun v H1 G1 o δ1 r1 s1 rel1 ok1 => k.nx σ H1 G1 δ1 r1 s1 rel1, k.tk⟩
def wSetX (i : Nat) (w : DEX) : DTS := fun E δ => w δ (fun o δ1 => lk o δ1 fun x δ2 => E.nx (δ2.set i (.d x))) E.rt
theorem jsx_set {i : Nat} {x : Str} {w : DEX} {pos' : Pos} (hN : X.N.Nodup) (hi : X.N[i]? = some x) (hx : Loc X.env.scope x) (he : JEX X TL e w) (hs : swapsWith e (some (.Name x pos')) pos.line X.env = pure false := by rfl) (hf : X.fn x = true ∨ X.env.scope.names.lookup x = some .local := by first | exact .inl rfl | exact .inr rfl | assumption) :
    JSX X TL (.Assign [.Name x pos'] e pos) (wSetX i w) := ps_le (ps_set hN hi hx he hs hf) fun pins s σ H D I ⟨B, G, δ, E, rel, hw, k⟩ => ⟨B, G, δ, _, E.rt, rel, hw, fun v H1 G1 o δ1 r1 s1 rel1 ok1 => by
  obtain ⟨G2, δ2, y, q, s2, rel2, dn⟩ := lk_ok rel1 ok1 r1
  exact k.nx _ H1 G2 _ q (s1.trans s2) (rel2.set (c := .d y) ⟨v, rfl, dn⟩ fun a m => nomatch m), k.tk⟩
def wAsgGX (w : DEX) (g : DTG) : DTS := fun E δ => w δ (fun o δ1 => lk o δ1 fun x δ2 => g x δ2 E.nx) E.rt
theorem jsx_asgG {tg : Expr} {w : DEX} {ts : List Nat} {g : DTG} (he : JEX X TL e w) (hg : JG X tg ts g) (hs : swapsWithSole [tg] e pos.line X.env = pure false := by rfl) (hw : swappedStores [tg] e X.env = pure none := by rfl) (h1 : (assignEach [tg] X.env).map (·.2) = [assign tg X.env] := by rfl) : JSX X TL (.Assign [tg] e pos) (wAsgGX w g) :=
  ps_le (ps_asg he hg hs hw h1) fun pins s σ H D I ⟨B, G, δ, E, rel, hw, k⟩ => ⟨B, G, δ, _, E.rt, rel, hw, fun v H1 G1 o δ1 r1 s1 rel1 ok1 => by
    obtain ⟨G2, δ2, x, q, s2, rel2, dn⟩ := lk_ok rel1 ok1 r1
    exact ⟨B, G2, δ2, x, _, rel2, dn, q, fun σ' H' G' δ' r' s' rel' _ => k.nx _ _ _ _ r' (s1.trans (s2.trans s')) rel'⟩, k.tk⟩
/-! e is None, c and d, a if c else b -/
def wOpX (p : P2) (wa wb : DEX) : DEX := fun δ R Z => wa δ (fun o1 δ1 => wb δ1 (fun o2 δ2 => use o1 δ2 fun x => use o2 δ2 fun y => p x y fun z => R (.d z) δ2) Z) Z
def wIfEX (t : DT) (wa wb : DEX) : DEX := fun δ R Z => t δ fun k δ1 => if k = true then wa δ1 R Z else wb δ1 R Z
theorem jex_ifE {t : DT} {c a b : Expr} {wa wb : DEX} (hc : JT X c t) (ha : JEX X TL a wa) (hb : JEX X TL b wb) : JEX X TL (.IfExp c a b pos) (wIfEX t wa wb) :=
  pe_le (pe_ifExp hc ha hb) fun pins s σ H Q I ⟨B, G, δ, R, Z, rel, hw, k, tk⟩ => ⟨B, G, δ, _, rel, hw, fun d H1 G1 δ1 r1 s1 rel1 => by
    cases d with
    | true => rw [if_pos rfl] at r1 ⊢; exact ⟨B, G1, δ1, _, Z, rel1, r1, fun b H2 G2 o2 δ2 r2 s2 rel2 ok2 => k b H2 G2 o2 δ2 r2 (s1.trans s2) rel2 ok2, tk.imp (wx_mono s1)⟩
    | false => rw [if_neg Bool.false_ne_true] at r1 ⊢; exact ⟨B, G1, δ1, _, Z, rel1, r1, fun b H2 G2 o2 δ2 r2 s2 rel2 ok2 => k b H2 G2 o2 δ2 r2 (s1.trans s2) rel2 ok2, tk.imp (wx_mono s1)⟩⟩
/-! raise -/
abbrev DMk := DS → (PyData → DS → Prop) → Prop
def upMk (K : PySem.W.Frag) (TL : XNames) (w : DMk) : L2.St → Hp → XK → Prop := fun σ H Q => ∃ B G δ Z, Rel K B G δ σ H ∧ w δ Z ∧ ∀ cls d H' G' x δ', Z x δ' → Same G G' → Rel K B G' δ' σ H' → ExcR K TL G' cls d x → Q cls d H'
abbrev JMk (X : Cx) (TL : XNames) (e : Expr) (w : DMk) : Prop := L2N.PMk X e (upMk X.K TL w)
def wRaise (w : DMk) : DTS := fun E δ => w δ E.rt
theorem jsx_raise {w : DMk} (hc : X.calm = true) (he : JMk X TL e w) : JSX X TL (.Raise (some e) none pos) (wRaise w) := ⟨fun pins s σ H D I ⟨B, G, δ, E, rel, hw, k⟩ => (L2N.ps_raise hc k.tk he).run pins s σ H D I
  ⟨B, G, δ, E.rt, rel, hw, fun cls d H' G' x δ' z s1 rel1 ex => ⟨G', δ', x, z, s1, rel1, ex⟩⟩⟩
/-- a class of one's own is called: its instance is made, filled by __init__, and may be raised -/
theorem class_makes {CX : CXT} {C fI : Addr} {k : Nat} {fd : FuncData} {ps : List Str} {sp : Sp} {ds us : List Value} {dvs vs : List V} {pins : List (Addr × Obj)} {σ : L2.St} {H : Hp} {s : Shared} {Q : XK} (T : OexC X.K C)
    (init : PySem.W.findIn X.K (.ref C) "__init__" = some (some (.ref fI))) (isFn : PySem.W.typeIn X.K (.ref fI) = some (.type "function")) (F1 : FnOk X.prog X.w X.K X.mg X.base CX k fI fd ps sp) (room : Room (k + 1) X.A) (binds : Binds X.K fd ps ds) (given : Vals dvs ds)
    (none' : Passes CX X (fun _ _ _ => False)) (I : Inv X pins σ H s) (r : Vals vs us) (few : vs.length ≤ 1000)
    (ask : ∀ a, H a = none → sp (.ref a :: (vs ++ dvs)) (upd H a (exo a C none)) (fun v H2 => v = .non ∧ ∃ (d : Addr) (fs : List (Str × V)), H2 a = some (exo a C (some d)) ∧ H2 d = some (exd d fs) ∧ H d = none ∧ Q (.ref C) (some d) (upd (L2.del H2 a) d (.xd fs))) fun _ _ _ => False) :
    wpAny (model X.prog X.w) X.A (call (.ref C) us) (L2N.MkP X pins σ Q) X.xe s := by
  obtain ⟨hp, gs, dr, tk, os⟩ := s
  obtain ⟨nm, q0, N, bs, bm, sn, sub, ab, col, dd, k0, k1, k2, k3, k5, at_C, refs⟩ := T.cls
  generalize ea : hp.objs.size + 1 = a
  have above : hp.objs.size ≤ a := ea ▸ Nat.le_succ _
  have free : H a = none := I.hok.fresh above
  have kept : ∀ b o, hp.get? b = some o → ((hp.push (PySem.W.kdv_tup us)).push (PySem.HandSPX.excO C hp.objs.size)).get? b = some o := fun _ _ e => Heap.get?_push_of_some _ (Heap.get?_push_of_some _ e)
  have J := I.laid (t' := tk) (a := a) (o := exo a C none) kept above (exo_ok (by subst ea; heap_get))
  have args : Vals (V.ref a :: (vs ++ dvs)) (Value.ref a :: (us ++ ds)) := .cons rfl (r.append given)
  have many : (Value.ref a :: us ++ ds).length = ps.length := args.length.symm.trans (F1.len _ _ _ _ (ask a free))
  have small : us.length ≤ sizeLine := r.length ▸ Nat.le_trans few (by decide)
  have run := F1.run _ X.stack _ _ ⟨Value.ref a :: us, []⟩ _ _ _ (fun _ _ _ => False) (room.make C us []) (J.env0.make C us []) (binds _ (Value.ref a :: us) J.kIn many) args (ask a free)
  subst ea
  refine wpAny_call (PySem.HandSPX.call_own F.excBase_ValueError (PySem.HandSPX.refsVE_contains · bm refs) (I.kIn _ _ at_C) (PySem.W.looks_findIn I.kIn init) (PySem.W.bind_fn I.kIn · isFn) small (codeAny_mono run ?_))
  rintro (e | _ | _ | _ | u) ⟨h2, g2, d2, t2, os2⟩ back <;> first | exact none' pins σ _ _ e _ J back | exact False.elim back | skip
  obtain ⟨_, H2, same, bare, un, ok, rv, rfl, d, fs, inst, dict, new, q⟩ := back
  obtain ⟨t0, G, K', old, gone, rec', out⟩ := mk_end0 (d2 := d2) (t2 := t2) I above kept un ok same bare inst dict new
  exact ⟨rv, _, _, _, ⟨G, g2, d2, t2, os2⟩, _, .ref C, some d, rfl, K', old, gone, rec', ⟨rfl, rfl, fun _ e => by cases e; rfl⟩, rfl, rfl, out, rfl, bare, raises_own T.exC T.tyC, q⟩
theorem pmk_class {CX : CXT} {x : Str} {e : Expr} {es : List Expr} {ta : TA} {p pos : Pos} {C fI : Addr} {k : Nat} {fd : FuncData} {ps : List Str} {sp : Sp} (T : OexC X.K C) (init : PySem.W.findIn X.K (.ref C) "__init__" = some (some (.ref fI))) (isFn : PySem.W.typeIn X.K (.ref fI) = some (.type "function"))
    (F : FnOk X.prog X.w X.K X.mg X.base CX k fI fd ps sp) (room : Room (k + 1) X.A) (binds : Binds X.K fd ps []) (none' : Passes CX X (fun _ _ _ => False)) (hg : Gl X x) (hm : X.mg x = some (.ref C)) (ha : PA X (e :: es) ta) (hdb : (x == ("__debug__" : Str)) = false)
    (he : starEach (e :: es) X.env = (false, eval e X.env) :: starEach es X.env) (hpl : (backTo pos (starEach es X.env)).any (·.1) = false) : L2N.PMk X (.Call (.Name x p) (e :: es) [] pos) (tMkO C sp [] ta) := fun pins s σ H Q I h =>
  wpAny_Call_Name_kw (ld_glob I hg hm (PySem.W.callWith_K (h₀ := X.base) I.ok.mod.kin T.kC (wpAny_mono (ha.run pos pins s σ H _ I h) (fun us _ ⟨_, _, I1, r, few, ask⟩ => ⟨I1.kIn, class_makes T init isFn F room binds .nil none' I1 r few ask⟩) fun _ _ z => z) he hpl) hdb)
/-- C(e): one field -/
def wMk1 (n f : Str) (w : DA) : DMk := fun δ Z => w δ fun os δ1 => lkL os δ1 fun xs δ2 => ∃ x, xs = [x] ∧ Z (excD n [(f, x)]) δ2
theorem jmk1 {x n f : Str} {e : Expr} {es : List Expr} {wa : DA} {p pos : Pos} {C fI : Addr} {k : Nat} {fd : FuncData} {ps : List Str} (hT : (n, C) ∈ TL) (hn : (PySem.W.clsIn X.K C).map (·.name) = some n) (T : OexC X.K C) (iC : PySem.W.findIn X.K (.ref C) "__init__" = some (some (.ref fI))) (tI : PySem.W.typeIn X.K (.ref fI) = some (.type "function"))
    (F1 : FnOk X.prog X.w X.K X.mg X.base CX0 k fI fd ps (spI1 C f)) (hr : Room (k + 1) X.A) (hb : Binds X.K fd ps []) (hg : Gl X x) (hm : X.mg x = some (.ref C)) (ha : JA X (e :: es) wa) (hdb : (x == ("__debug__" : Str)) = false := by decide)
    (he : starEach (e :: es) X.env = (false, eval e X.env) :: starEach es X.env := by rfl) (hpl : (backTo pos (starEach es X.env)).any (·.1) = false := by rfl) :
    JMk X TL (.Call (.Name x p) (e :: es) [] pos) (wMk1 n f wa) := fun pins s σ H Q I ⟨B, G, δ, Z, rel, hw, k⟩ => pmk_class T iC tI F1 hr hb pass0 hg hm ha hdb he hpl pins s σ H Q I ⟨B, G, δ, _, rel, hw, fun vs H1 G1 os δ1 r1 s1 rel1 ok1 => by
  obtain ⟨G2, δ2, xs, ⟨y, rfl, q⟩, s2, rel2, t⟩ := lkL_ok rel1 ok1 r1
  obtain ⟨v, rfl, dv⟩ := t.one
  refine ⟨by simp, fun a na => ⟨a, v, rfl, upd_same, fun dx n1 n2 => ⟨rfl, dx, [(f, v)], upd_same, by rw [upd_ne n2, upd_same], by rw [upd_ne n2] at n1; exact n1, ?_⟩⟩⟩
  have n1' : H1 dx = none := by rw [upd_ne n2] at n1; exact n1
  have eh : upd (L2.del (upd (upd (upd H1 a (exo a C none)) dx (exd dx [(f, v)])) a (exo a C (some dx))) a) dx (.xd [(f, v)]) = upd H1 dx (.xd [(f, v)]) := by
    funext b
    by_cases h1 : b = dx
    · rw [h1, upd_same, upd_same]
    · rw [upd_ne h1, upd_ne h1]
      by_cases h2 : b = a
      · rw [h2, L2.del_same, na]
      · rw [L2.del_ne h2, upd_ne h2, upd_ne h1, upd_ne h2]
  rw [eh]
  obtain ⟨rel3, s3⟩ := rel2.laid (o := .xd [(f, v)]) n1'
  exact k _ _ _ _ _ _ q (s1.trans (s2.trans s3)) rel3 ⟨⟨n, C, [(f, y)], rfl, rfl, hn, .inl ⟨dx, _, rfl, upd_same, rfl, .cons (dv.mono s3) .nil⟩⟩, n, C, hT, rfl⟩⟩
/-- C(e, e2): two fields -/
def wMk2 (n f g : Str) (w : DA) : DMk := fun δ Z => w δ fun os δ1 => lkL os δ1 fun xs δ2 => ∃ x y, xs = [x, y] ∧ Z (excD n [(g, y), (f, x)]) δ2
theorem jmk2 {x n f g : Str} {e : Expr} {es : List Expr} {wa : DA} {p pos : Pos} {C fI : Addr} {k : Nat} {fd : FuncData} {ps : List Str} (hT : (n, C) ∈ TL) (hn : (PySem.W.clsIn X.K C).map (·.name) = some n) (T : OexC X.K C) (iC : PySem.W.findIn X.K (.ref C) "__init__" = some (some (.ref fI))) (tI : PySem.W.typeIn X.K (.ref fI) = some (.type "function"))
    (F1 : FnOk X.prog X.w X.K X.mg X.base CX0 k fI fd ps (spI2 C f g)) (hr : Room (k + 1) X.A) (hb : Binds X.K fd ps []) (hg : Gl X x) (hm : X.mg x = some (.ref C)) (ha : JA X (e :: es) wa) (hdb : (x == ("__debug__" : Str)) = false := by decide)
    (he : starEach (e :: es) X.env = (false, eval e X.env) :: starEach es X.env := by rfl) (hpl : (backTo pos (starEach es X.env)).any (·.1) = false := by rfl) :
    JMk X TL (.Call (.Name x p) (e :: es) [] pos) (wMk2 n f g wa) := fun pins s σ H Q I ⟨B, G, δ, Z, rel, hw, k⟩ => pmk_class T iC tI F1 hr hb pass0 hg hm ha hdb he hpl pins s σ H Q I ⟨B, G, δ, _, rel, hw, fun vs H1 G1 os δ1 r1 s1 rel1 ok1 => by
  obtain ⟨G2, δ2, xs, ⟨y, z, rfl, q⟩, s2, rel2, t⟩ := lkL_ok rel1 ok1 r1
  obtain ⟨v, u, rfl, dv, du⟩ := t.two
  refine ⟨by simp, fun a na => ⟨a, v, u, rfl, upd_same, fun dx n1 n2 => ⟨rfl, dx, [(g, u), (f, v)], by rw [upd_ne (Ne.symm n2), upd_same], upd_same, by rw [upd_ne n2] at n1; exact n1, ?_⟩⟩⟩
  have n1' : H1 dx = none := by rw [upd_ne n2] at n1; exact n1
  have eh : upd (L2.del (upd (upd (upd (upd H1 a (exo a C none)) dx (exd dx [(f, v)])) a (exo a C (some dx))) dx (exd dx [(g, u), (f, v)])) a) dx (.xd [(g, u), (f, v)]) = upd H1 dx (.xd [(g, u), (f, v)]) := by
    funext b
    by_cases h1 : b = dx
    · rw [h1, upd_same, upd_same]
    · rw [upd_ne h1, upd_ne h1]
      by_cases h2 : b = a
      · rw [h2, L2.del_same, na]
      · rw [L2.del_ne h2, upd_ne h1, upd_ne h2, upd_ne h1, upd_ne h2]
  rw [eh]
  obtain ⟨rel3, s3⟩ := rel2.laid (o := .xd [(g, u), (f, v)]) n1'
  exact k _ _ _ _ _ _ q (s1.trans (s2.trans s3)) rel3 ⟨⟨n, C, [(g, z), (f, y)], rfl, rfl, hn, .inl ⟨dx, _, rfl, upd_same, rfl, .cons (du.mono s3) (.cons (dv.mono s3) .nil)⟩⟩, n, C, hT, rfl⟩⟩
end
end DL
set_option Elab.async false
set_option linter.all false
set_option maxRecDepth 100000
set_option maxHeartbeats 4000000
namespace DL
open PySem PySem.Spec PyProof.Rows L2
variable [Tb]
/-! ### data that stands for an exception -/
def notX (x : PyData) : Prop := ∀ n fs, x ≠ excD n fs
def onX (x : PyData) (k : PyData → Prop) (kx : Str → List (Str × PyData) → Prop) (_u : Stop (k, kx)) : Prop := (∀ n fs, x = excD n fs → kx n fs) ∧ (notX x → k x)
theorem excD_inj {n m : Str} {fs gs : List (Str × PyData)} (h : excD n fs = excD m gs) : n = m ∧ fs = gs := by
  unfold excD at h
  simp only [PyData.dict.injEq, List.cons.injEq, Prod.mk.injEq, PyData.str.injEq, and_true] at h
  obtain ⟨h1, h2⟩ := h
  refine ⟨h1, ?_⟩
  refine (List.map_inj_right ?_).mp h2
  rintro ⟨a, b⟩ ⟨c, d⟩ e
  simp only [Prod.mk.injEq, PyData.str.injEq] at e
  exact Prod.ext e.1 e.2
theorem onX_yes {n : Str} {fs : List (Str × PyData)} {k : PyData → Prop} {kx : Str → List (Str × PyData) → Prop} {u : Stop (k, kx)} (h : onX (excD n fs) k kx u) : kx n fs := h.1 n fs rfl
theorem onX_no {x : PyData} {k : PyData → Prop} {kx : Str → List (Str × PyData) → Prop} {u : Stop (k, kx)} (h : onX x k kx u) (hn : notX x) : k x := h.2 hn
omit [Tb] in
@[simp ↓] theorem onX_exc (n : Str) (fs : List (Str × PyData)) (k : PyData → Prop) (kx : Str → List (Str × PyData) → Prop) (u : Stop (k, kx)) : onX (excD n fs) k kx u = kx n fs := propext ⟨onX_yes, fun h => ⟨fun m gs e => by
  obtain ⟨rfl, rfl⟩ := excD_inj e
  exact h, fun hn => absurd rfl (hn n fs)⟩⟩
theorem onX_of {x : PyData} {k : PyData → Prop} {kx : Str → List (Str × PyData) → Prop} {u : Stop (k, kx)} (hn : notX x) : onX x k kx u = k x := propext ⟨fun h => h.2 hn, fun h => ⟨fun n fs e => absurd e (hn n fs), fun _ => h⟩⟩
theorem notX_tup (xs : List PyData) : notX (.tuple xs) := fun n fs e => by cases e
theorem notX_list (xs : List PyData) : notX (.list xs) := fun n fs e => by cases e
theorem notX_int (i : Int) : notX (.int i) := fun n fs e => by cases e
theorem notX_bool (i : Bool) : notX (.bool i) := fun n fs e => by cases e
theorem notX_str (i : Str) : notX (.str i) := fun n fs e => by cases e
theorem notX_none : notX .none := fun n fs e => by cases e
omit [Tb] in
@[simp ↓] theorem onX_tup (xs : List PyData) (k : PyData → Prop) (kx : Str → List (Str × PyData) → Prop) (u : Stop (k, kx)) : onX (.tuple xs) k kx u = k (.tuple xs) := onX_of (notX_tup xs)
omit [Tb] in
@[simp ↓] theorem onX_list (xs : List PyData) (k : PyData → Prop) (kx : Str → List (Str × PyData) → Prop) (u : Stop (k, kx)) : onX (.list xs) k kx u = k (.list xs) := onX_of (notX_list xs)
omit [Tb] in
@[simp ↓] theorem onX_int (i : Int) (k : PyData → Prop) (kx : Str → List (Str × PyData) → Prop) (u : Stop (k, kx)) : onX (.int i) k kx u = k (.int i) := onX_of (notX_int i)
omit [Tb] in
@[simp ↓] theorem onX_bool (i : Bool) (k : PyData → Prop) (kx : Str → List (Str × PyData) → Prop) (u : Stop (k, kx)) : onX (.bool i) k kx u = k (.bool i) := onX_of (notX_bool i)
omit [Tb] in
@[simp ↓] theorem onX_str (i : Str) (k : PyData → Prop) (kx : Str → List (Str × PyData) → Prop) (u : Stop (k, kx)) : onX (.str i) k kx u = k (.str i) := onX_of (notX_str i)
omit [Tb] in
@[simp ↓] theorem onX_none (k : PyData → Prop) (kx : Str → List (Str × PyData) → Prop) (u : Stop (k, kx)) : onX .none k kx u = k .none := onX_of notX_none
omit [Tb] in
@[simp] theorem notX_tup' (xs : List PyData) : notX (.tuple xs) = True := eq_true (notX_tup xs)
omit [Tb] in
@[simp] theorem notX_list' (xs : List PyData) : notX (.list xs) = True := eq_true (notX_list xs)
omit [Tb] in
@[simp] theorem notX_int' (xs : Int) : notX (.int xs) = True := eq_true (notX_int xs)
omit [Tb] in
@[simp] theorem notX_bool' (xs : Bool) : notX (.bool xs) = True := eq_true (notX_bool xs)
omit [Tb] in
@[simp] theorem notX_str' (xs : Str) : notX (.str xs) = True := eq_true (notX_str xs)
omit [Tb] in
@[simp] theorem notX_none' : notX .none = True := eq_true notX_none
/-! ### defs that may raise -/
def liftSpX (K : PySem.W.Frag) (TL : XNames) (sp : DSp) : Sp := fun vs H Q E => ∃ B G cs R, Rel K B G cs (vs.map some) H ∧ sp cs R ∧ (∀ v H' G' x cs', R x cs' → Same G G' → Rel K B G' cs' (vs.map some) H' → Dn K G' v x → Q v H') ∧
  ∀ cls d H' G' x cs', R x cs' → Same G G' → Rel K B G' cs' (vs.map some) H' → ExcR K TL G' cls d x → E cls d H'
section
variable {P : Program} {w : World} {K : PySem.W.Frag} {mg : Str → Option Value} {base : Heap}
theorem okX {x qual : Str} {st : Stmt} {f : Addr} {fd : FuncData} {N ps : List Str} {k : Nat} {sp : DSp} {wb : DTS} {TL : XNames} (F : Fun K x qual st f fd) (S : FnScope N ps (defScope st)) (dl : ∀ cs R, sp cs R → cs.length = ps.length)
    (body : ∀ (cdv : Value) (A : Around) (outer : List Env) (s : Shared) (H : Hp) (E : XK), RoomG k (A.deeper (envOfC qual (defScope st) s.heap.objs.size f cdv)) → JSsX (cxOf (L2N.CX P w) P w K mg base N qual (defScope st) f cdv A outer s H E) TL (defBody st) wb)
    (rd : ∀ cs R, sp cs R → wb (endsOf cs R) (start0 N.length cs)) : FnG P w K mg base (L2N.CX P w) (k + 1) f fd ps (liftSpX K TL sp) := by
  obtain ⟨oc, od, kV, doc, pm, an, cdv, ct, osl, rfl, lk, hcd⟩ := F.ex
  refine fnG_of lk hcd S (fun vs H Q E ⟨B, G, cs, R, rel, hs, _⟩ => by rw [← dl cs R hs, ← rel.len, List.length_map]) fun A outer s H vs Q E hr ⟨B, G, cs, R, rel, hs, k, kx⟩ => ?_
  refine ⟨_, body cdv A outer s H E hr, B, G, _, endsOf cs R, rel_start rel, rd cs R hs, ⟨fun σ' H' G' δ' ⟨io, r⟩ sG rel' => k _ H' G' _ _ r sG (rel_end rel rel' sG io) .non, fun v σ' H' G' x δ' ⟨io, r⟩ sG rel' dn => k v H' G' x _ r sG (rel_end rel rel' sG io) dn, fun _ _ _ _ h => h.elim, fun _ _ _ _ h => h.elim⟩, ?_⟩
  refine (L2N.takes_of (E := E) rfl rfl rfl rfl).imp fun cls d σ' H' ⟨G', δ', x, ⟨io, r⟩, sG, rel', ex⟩ => ?_
  exact kx cls d H' G' x _ r sG (rel_end rel rel' sG io) ex
end
section
variable {X : Cx} {TL : XNames} {CX : CXT} {k : Nat} {f : Addr} {fd : FuncData} {ps : List Str} {x : Str} {p pos : Pos} {e : Expr} {es : List Expr}
theorem run_fnGS {sp : Sp} {E : L2.St → XK} {pins : List (Addr × Obj)} {σ : L2.St} {H : Hp} {s : Shared} {Q : VK} {us : List Value} {vs : List V} (F : FnG X.prog X.w X.K X.mg X.base CX k f fd ps sp) (hr : RoomG k X.A) (hb : Binds X.K fd ps []) (hx : PassesAt CX X σ (E σ))
    (I : Inv X pins σ H s) (r : Vals vs us) (h : sp vs H Q (E σ)) : wpAny (model X.prog X.w) X.A (call (.ref f) us) (EP X pins σ Q) X.xe s := by
  have many : (us ++ []).length = ps.length := (List.append_nil us).symm ▸ r.length.symm.trans (F.len _ _ _ _ h)
  have bound : BindsTo s fd ⟨us, []⟩ (ps.zip us) := by have := hb s us I.kIn many; rwa [List.append_nil] at this
  refine wpAny_call (codeAny_mono (F.run X.A X.stack s H ⟨us, []⟩ us vs Q (E σ) hr I.env0 bound r h) ?_)
  rintro (err | _ | _ | _ | u) z back <;> first | exact hx pins H s err z I back | exact False.elim back | exact I.after back
theorem pe_callGS {sp : Sp} {E : L2.St → XK} {t : TA} (F : FnG X.prog X.w X.K X.mg X.base CX k f fd ps sp) (hr : RoomG k X.A) (hg : Gl X x) (hm : X.mg x = some (.ref f)) (hk : PySem.W.keepIn X.K (.ref f) = true) (hb : Binds X.K fd ps []) (hx : ∀ σ, PassesAt CX X σ (E σ))
    (ha : PA X (e :: es) t) (hdb : (x == ("__debug__" : Str)) = false := by decide) (he : starEach (e :: es) X.env = (false, eval e X.env) :: starEach es X.env := by rfl) (hpl : (backTo pos (starEach es X.env)).any (·.1) = false := by rfl) : PE X (.Call (.Name x p) (e :: es) [] pos) (tCallS sp E t) := by
  exact ⟨fun pins s σ H Q I h => wpAny_Call_Name_kw (ld_glob I hg hm (PySem.W.callWith_K (h₀ := X.base) I.ok.mod.kin hk (wpAny_mono (ha.run pos pins s σ H _ I h)
    (fun us z ⟨vs, H1, I1, r, q⟩ => ⟨I1.kIn, run_fnGS F hr hb (hx σ) I1 r q⟩) fun _ _ z => z) he hpl) hdb)⟩
def wCallX (m : List Bool) (sp : DSp) (w : DAX) : DEX := fun δ R Z => w δ (fun os δ1 => lkM m os δ1 fun os' δ2 => (slotsOf os').Nodup ∧ sp (os'.map (cellOf δ2)) fun x cs => onX x (fun x => R (.d x) (putBack os' cs δ2)) (fun n fs => Z (excD n fs) (putBack os' cs δ2)) .mk) Z
theorem dn_notX {K : PySem.W.Frag} {G : Hp} {v : V} {n : Str} {fs : List (Str × PyData)} (h : Dn K G v (excD n fs)) : False := by cases h
theorem jex_call {m : List Bool} {sp : DSp} {w : DAX} (F : FnG X.prog X.w X.K X.mg X.base (L2N.CX X.prog X.w) k f fd ps (liftSpX X.K TL sp)) (hr : RoomG k X.A) (hg : Gl X x) (hm : X.mg x = some (.ref f)) (hk : PySem.W.keepIn X.K (.ref f) = true) (hb : Binds X.K fd ps [])
    (ha : JAX X TL (e :: es) w) (hdb : (x == ("__debug__" : Str)) = false := by decide) (he : starEach (e :: es) X.env = (false, eval e X.env) :: starEach es X.env := by rfl) (hpl : (backTo pos (starEach es X.env)).any (·.1) = false := by rfl) : JEX X TL (.Call (.Name x p) (e :: es) [] pos) (wCallX m sp w) :=
  ⟨fun pins s σ H Q I ⟨B, G, δ, R, Z, rel, hw, k, tk⟩ => (pe_callGS (E := WE (wxOf X.K TL B G Z)) F hr hg hm hk hb (L2N.passAt tk) ha hdb he hpl).run pins s σ H Q I ⟨B, G, δ, _, Z, rel, hw, fun vs H1 G1 os δ1 r1 s1 rel1 ok1 => by
    obtain ⟨G2, δ2, os', ⟨nd, q⟩, s2, rel2, ok2⟩ := lkM_ok rel1 ok1 r1
    refine ⟨_, G2, _, _, call_rel rel2 ok2 nd, q, fun v H' G' z cs r s3 rel3 dn => k v H' G' _ _ (onX_no r fun n fs e => by rw [e] at dn; exact dn_notX dn) (s1.trans (s2.trans s3)) (call_back rel2 ok2 nd s3 rel3) dn, fun cls d H' G' z cs r s3 rel3 ex => ?_⟩
    obtain ⟨⟨n, C, fs, rfl, h2⟩, h3⟩ := ex
    exact ⟨G', _, _, onX_yes r, s1.trans (s2.trans s3), call_back rel2 ok2 nd s3 rel3, ⟨⟨n, C, fs, rfl, h2⟩, h3⟩⟩, tk⟩⟩
/-! combinators -/
def xE (w : DE) : DEX := fun δ R _ => w δ R
def xA (w : DA) : DAX := fun δ R _ => w δ R
def nX (w : DEX) : DE := fun δ R => w δ R fun _ _ => False
theorem jxe {w : DE} (h : JE X e w) : JEX X TL e (xE w) := jex_of h
theorem jxa {es : List Expr} {w : DA} (h : JA X es w) : JAX X TL es (xA w) := pa_le h fun pins s σ H Q I ⟨B, G, δ, R, Z, rel, hw, k, tk⟩ => ⟨B, G, δ, R, rel, hw, k⟩
theorem jnx {w : DEX} (h : JEX X TL e w) : JE X e (nX w) := je_ofX h
/-- a statement out of which nothing comes -/
def noXE (E : DEnds) : DEnds := { E with rt := fun x δ' => notX x ∧ E.rt x δ' }
def wNoX (w : DTS) : DTS := fun E δ => w (noXE E) δ
theorem js_noX {st : Stmt} {w : DTS} (h : JSX X TL st w) : JS X st (wNoX w) := ps_le h fun pins s σ H D I ⟨B, G, δ, E, rel, hw, k⟩ =>
  ⟨B, G, δ, _, rel, hw, ⟨k.nx, fun v σ' H' G' x δ' ⟨_, r⟩ => k.rt v σ' H' G' x δ' r, k.bk, k.ct⟩, takes_no.imp fun c d σ H ⟨_, _, x, ⟨hn, _⟩, _, _, ⟨n, C, fs, e, _⟩, _⟩ => hn n fs e⟩
end
/-! ### try: .. except C as e: .. -/
def hndE (i : Nat) (E : DEnds) : DEnds := { nx := fun δ2 => E.nx (δ2.set i .em), rt := fun y δ2 => E.rt y (δ2.set i .em), bk := fun δ2 => E.bk (δ2.set i .em), ct := fun δ2 => E.ct (δ2.set i .em) }
def tryE (i : Nat) (cat : Str → Bool) (wh : Addr → Value → Option Addr → DTS) (E : DEnds) : DEnds := { nx := E.nx, bk := E.bk, ct := E.ct, rt := fun x δ' => onX x (fun x => E.rt x δ') (fun n fs => if cat n = true then ∀ (a : Addr) (cls : Value) (d : Option Addr), wh a cls d (hndE i E) (δ'.set i (.xc a cls d (excD n fs))) else E.rt (excD n fs) δ') .mk }
def wTry (i : Nat) (cat : Str → Bool) (wb : DTS) (wh : Addr → Value → Option Addr → DTS) : DTS := fun E δ => wb (tryE i cat wh E) δ
section
variable {X : Cx} {TL : XNames}
theorem clear_set {K : PySem.W.Frag} {B G H : Hp} {δ : DS} {σ : L2.St} (i : Nat) (R : Rel K B G δ σ H) : Rel K B G (δ.set i .em) (σ.set i none) H := R.clear none
theorem jsx_try {x n : Str} {c : Value} {i : Nat} {body suite : List Stmt} {b₀ : Stmt} {np pos pos' : Pos} {cat : Str → Bool} {wb : DTS} {wh : Addr → Value → Option Addr → DTS}
    (hs : X.stack = X.env :: X.outer) (hf : X.env.frame = some X.env.locals) (hN : X.N.Nodup) (hi : X.N[i]? = some n) (hln : X.env.kindOf n = some .local) (hc : Names X x c)
    (hnm : ∀ n C, (n, C) ∈ TL → (PySem.W.clsIn X.K C).map (·.name) = some n) (hcat : ∀ n C, (n, C) ∈ TL → PySem.W.exmOne X.K (.ref C) c = some (cat n))
    (hb : ∀ (pn : List (Addr × Obj)) (xe : Value → Shared → Prop), PassesOwn (model X.prog X.w) X.A X.env xe → JSsX (X.tr pn xe) TL body wb)
    (hsu : ∀ (a : Addr) (oe : Obj) (cls : Value) (d : Option Addr) (pn : List (Addr × Obj)), Zc cls d oe → (∃ vs, oe.data = .fields vs) → (∃ n C, (n, C) ∈ TL ∧ cls = .ref C) → JSs (X.suite a ((a, oe) :: pn)) (b₀ :: suite) (wh a cls d)) :
    JSX X TL (.Try body [.ExceptHandler (some (.Name x np)) (some n) (b₀ :: suite) pos'] [] [] pos) (wTry i cat wb wh) := ⟨fun pins s σ H D I ⟨B, G, δ, E, rel, hw, k⟩ => by
  refine (L2N.ps_try_as (i := i) (Wout := wxOf X.K TL B G E.rt) (tb := fun W D σ H => ∃ B G δ E, Rel X.K B G δ σ H ∧ wb E δ ∧ EndsOk X.K B G E D ∧ ∀ cls d σ' H', wxOf X.K TL B G E.rt cls d σ' H' → W cls d σ' H')
    (ts := fun a cls d D σ H => (∃ n C, (n, C) ∈ TL ∧ cls = .ref C) ∧ upS X.K (wh a cls d) D σ H) hs hf hN hi hln hc k.tk (fun W pn xe tk po => ?_) (fun a oe cls d pn hz hv => ?_)).run pins s σ H D I ?_
  · exact pss_le (hb pn xe po) fun pins s σ H D I ⟨B, G, δ, E, rel, hw, k, wx⟩ => ⟨B, G, δ, E, rel, hw, k, tk.imp wx⟩
  · exact ⟨fun pins s σ H D I ⟨hC, q⟩ => (hsu a oe cls d pn hz.zc hv hC).run pins s σ H D I q⟩
  · refine ⟨B, G, δ, _, rel, hw, ⟨k.nx, fun v σ' H' G' x δ' q sG rel' dn => by
      have hn : notX x := fun n fs e => by
        rw [e] at dn
        exact dn_notX dn
      have q2 : E.rt x δ' := And.right q hn
      exact k.rt v σ' H' G' x δ' q2 sG rel' dn, k.bk, k.ct⟩, ?_⟩
    rintro cls d σ' H' ⟨G', δ', x, q, sG, rel', hx⟩
    obtain ⟨⟨n0, C, fs, rfl, hcl, hn0, hd⟩, n1, C1, hT, hcl1⟩ := id hx
    rw [hcl] at hcl1
    have : C = C1 := Value.ref.inj hcl1
    subst this
    have : n0 = n1 := by
      have := hnm n1 C hT
      rw [hn0] at this
      exact Option.some.inj this
    subst this
    have q := And.left q n0 fs rfl
    simp only [] at q
    refine ⟨cat n0, by rw [hcl]; exact hcat n0 C hT, fun e a na => ⟨⟨n0, C, hT, hcl⟩, ?_⟩, fun e => ?_⟩
    · rw [if_pos e] at q
      refine ⟨B, G', _, _, rel'.set (i := i) (c := .xc a cls d (excD n0 fs)) ⟨rfl, hx.1⟩ (fun _ m => nomatch m), q a cls d, ?_⟩
      exact ⟨fun σ2 H2 G2 δ2 r s2 rel2 => k.nx _ H2 G2 _ r (sG.trans s2) (clear_set i rel2), fun v σ2 H2 G2 y δ2 r s2 rel2 dn => k.rt v _ H2 G2 y _ r (sG.trans s2) (clear_set i rel2) dn,
        fun σ2 H2 G2 δ2 r s2 rel2 => k.bk _ H2 G2 _ r (sG.trans s2) (clear_set i rel2), fun σ2 H2 G2 δ2 r s2 rel2 => k.ct _ H2 G2 _ r (sG.trans s2) (clear_set i rel2)⟩
    · rw [e, if_neg Bool.false_ne_true] at q
      exact ⟨G', δ', _, q, sG, rel', hx⟩⟩
end
end DL
set_option Elab.async false
set_option linter.all false
set_option maxRecDepth 100000
set_option maxHeartbeats 4000000
namespace DL
open PySem PySem.Spec PyProof.Rows L2
variable [Tb]
/-! ### isinstance of a caught error that has a dict (HandS.ExcIs has it for those without) -/
section
open PySem.W PySem.Calls
variable {prog : Program} {w : World} {A : Around} {E : Value → Shared → Prop} {s : Shared} {K : Frag} {x D : Addr} {ox : Obj}
/-- `x.__class__` of an instance, by the descriptor that the root class gives, is the instance's class -/
structure ClsBy (K : Frag) (D : Addr) : Prop where
  get : findIn K (.ref D) "__getattribute__" = some (some (.builtin "BaseException.__getattribute__"))
  no : findIn K (.ref D) "__getattr__" = some none
  exc : subIn K (.ref D) (.type "BaseException") = some true
  dict : hasDictIn K D = true
  attr : findIn K (.ref D) "__class__" = some (some (.builtin "object.__class__"))
  desc : specialIn K (.builtin "object.__class__") "__get__" = some (some (.builtin "getset_descriptor.__get__"))
  takes : takesIn K (.builtin "object.__class__") = some true
  root : mroIn K D (.type "object") = some true
variable {od : Option Obj}
theorem ClsBy.cls (c : ClsBy K D) : ∃ cd, clsIn K D = some cd := (any_some c.dict).imp fun _ z => z.1
theorem ClsBy.found (c : ClsBy K D) : findObj K D od "__class__" = some (.bind (.builtin "getset_descriptor.__get__") (.builtin "object.__class__")) := by
  obtain ⟨cd, e⟩ := c.cls
  simp [findObj, e, c.attr, c.desc, c.takes]
/-- the class is an object of the program, and no tuple -/
theorem ClsBy.obj (c : ClsBy K D) : ∃ o cd, K.lookup D = some o ∧ o.data = .cls cd := by
  obtain ⟨cd, e⟩ := c.cls
  rw [clsIn] at e
  split at e
  next _ _ cd' _ at_D => exact ⟨_, cd', at_D, rfl⟩
  next => exact nomatch e
section
variable {t : Nat} {Q : Fin → Shared → Prop}
theorem ClsBy.root_get (c : ClsBy K D) {tk : Tok} {s : Shared} (X : K.In s.heap) (I : InstAt s.heap x ox D od) (h : Q (.done (.ret (.ref D))) s) : wpAny (model prog w) A (Builtin.«object.__getattribute__» ⟨[.ref x, .str "__class__" tk], []⟩) Q E s := by
  obtain ⟨hp, gs, dr, tk0, os⟩ := s
  have type := I.type (M := model prog w)
  have find := looks_find (M := model prog w) X I c.found
  have desc : wpAny (model prog w) A (holding [Value.builtin "object.__class__"] (call (.builtin "getset_descriptor.__get__") [.builtin "object.__class__", .ref x, .ref D]) >>= ret) Q E ⟨hp, gs, dr, tk0, os⟩ := by
    refine wpAny_bind (wpAny_holding (wpAny_call (class_get (s := ⟨hp, gs, dr, tk0, os⟩) (ox := ox) (od := od) X I c.root ?_)))
    exact wpAny_pure h
  delta Builtin.«object.__getattribute__»
  exact wpAny_bind (wpAny_of_eq (a := ((Value.ref x : Value), [Value.str "__class__" tk])) (by simp only [slotArgs]; rfl) (wpAny_bind (wpAny_pure (wpAny_bind (type.at (wpAny_bind (find.at desc)))))))
end
section
variable {Q : Option Value → Shared → Prop}
theorem ClsBy.tells (c : ClsBy K D) (X : K.In s.heap) (I : InstAt s.heap x ox D od) (h : Q (some (.ref D)) { s with toks := s.toks + 1 }) : wpAny (model prog w) A (getAttr? (.ref x) "__class__") Q E s := by
  obtain ⟨hp, gs, dr, tk, os⟩ := s
  have type := I.type (M := model prog w)
  have isExc : Looks (model prog w) hp (isInstance (.ref x) (.type "BaseException")) true := type.andThen (looks_subIn X c.exc)
  have other : (Value.builtin "BaseException.__getattribute__" == Value.builtin "object.__getattribute__") = false := by decide +kernel
  have by_base {G E' : Value → Shared → Prop} {A' : Around} (g : G (.ref D) ⟨hp, gs, dr, tk + 1, os⟩) : wpAny (model prog w) A' (call (.builtin "BaseException.__getattribute__") [.ref x, .str "__class__" tk]) G E' ⟨hp, gs, dr, tk + 1, os⟩ :=
    wpAny_call (codeAny_call_builtin PySem.F.excAttr_ValueError.ga.plain PySem.F.entry_bexc_ga (@check_slot (model prog w) _ _ ⟨hp, gs, dr, tk + 1, os⟩ "BaseException.__getattribute__" "BaseException" "__getattribute__" (.ref x) [.str "__class__" tk] [] _ (by decide +kernel) (by decide +kernel) isExc
      (PySem.F.args_bexc_ga (.ref x) (.str "__class__" tk)) (c.root_get X I g)))
  have look1 := looks_findIn (M := model prog w) X c.get
  have look2 := looks_findIn (M := model prog w) X c.no
  delta getAttr? getAttrBy? getAttrBy
  refine wpAny_bind (wpAny_mkText (wpAny_bind (wpAny_attempt (wpAny_holding (wpAny_bind (type.at (wpAny_bind (look1.at (wpAny_ite_false (by rw [other, Bool.and_false]; rfl) ?_)))))))))
  delta getAttrByItsOwn hookBefore
  refine wpAny_bind (wpAny_ite_true (by rfl) (look2.at (wpAny_bind (wpAny_attempt (wpAny_holding ?_)))))
  delta callGetattribute
  refine wpAny_ite_false (by rfl) ?_
  delta boundAndCalled
  rw [PySem.F.excAttr_ValueError.ga.bind (.ref x)]
  refine wpAny_bind (wpAny_pure (show wpAny _ _ (call (.builtin "BaseException.__getattribute__") [.ref x, .str "__class__" tk]) _ _ _ from by_base ?_))
  show wpAny _ _ (handedOut (.ref D)) _ _ _
  rw [handedOut_of (v := .ref D) rfl]
  exact wpAny_pure (wpAny_pure h)
end
theorem ClsBy.kit (c : ClsBy K D) : KitX K (.ref x) (.ref D) (fun h => InstAt h x ox D od) where
  ty := fun _ _ _ I => I.type
  it := fun _ _ X _ => by
    obtain ⟨o, cd, at_D, dt⟩ := c.obj
    intro A' Q' E' s' k q
    delta isType loadHead
    exact wpAny_bind (wpAny_loadPart (k _ _ (X _ _ at_D)) (by rw [dt]; exact wpAny_pure q))
  ne := fun h tp dd its n sl X htp => by
    obtain ⟨o, cd, at_D, dt⟩ := c.obj
    refine beq_false_of_ne fun e => ?_
    cases e
    cases (X _ _ at_D).symm.trans htp
    cases dt
  ca := fun X I k => c.tells X I k
end
theorem look_in {K : PySem.W.Frag} {G : Hp} {f : Str} {y : PyData} : ∀ {ws : List (Str × V)} {fs : List (Str × PyData)}, ws.map (·.1) = fs.map (·.1) → DnL K G (ws.map (·.2)) (fs.map (·.2)) → fs.lookup f = some y → ∃ v, ws.lookup f = some v ∧ Dn K G v y
  | [], [], _, _, h => by cases h
  | [], _ :: _, h, _, _ => by cases h
  | _ :: _, [], h, _, _ => by cases h
  | (n, v) :: ws, (m, x) :: fs, h, t, l => by
    simp only [List.map_cons, List.cons.injEq] at h
    obtain ⟨rfl, h⟩ := h
    simp only [List.map_cons] at t
    cases t with
    | cons t1 t2 =>
      rw [List.lookup_cons] at l ⊢
      split at l
      · cases l
        exact ⟨v, rfl, t1⟩
      · exact look_in h t2 l
/-! ### what an except suite does with its error -/
def xfC (c : Option Cell) (a : Addr) (cls : Value) (d : Option Addr) (f : Str) (k : PyData → Prop) (_u : Stop k) : Prop := ∃ n fs y, c = some (.xc a cls d (excD n fs)) ∧ fs.lookup f = some y ∧ k y
def wXf (a : Addr) (cls : Value) (d : Option Addr) (i : Nat) (f : Str) : DE := fun δ R => xfC δ[i]? a cls d f (fun y => R (.d y) δ) .mk
def isxC (c : Option Cell) (a : Addr) (cls : Value) (d : Option Addr) (k : Str → Prop) (_u : Stop k) : Prop := ∃ n fs, c = some (.xc a cls d (excD n fs)) ∧ k n
def wIsx (a : Addr) (cls : Value) (d : Option Addr) (i : Nat) (isin : Str → Bool) : DE := fun δ R => isxC δ[i]? a cls d (fun n => R (.d (.bool (isin n))) δ) .mk
omit [Tb] in
@[simp ↓] theorem wXf_ap (a : Addr) (cls : Value) (d : Option Addr) (i : Nat) (f : Str) (δ : DS) (R : Opd → DS → Prop) : wXf a cls d i f δ R = xfC δ[i]? a cls d f (fun y => R (.d y) δ) .mk := rfl
omit [Tb] in
@[simp ↓] theorem wIsx_ap (a : Addr) (cls : Value) (d : Option Addr) (i : Nat) (isin : Str → Bool) (δ : DS) (R : Opd → DS → Prop) : wIsx a cls d i isin δ R = isxC δ[i]? a cls d (fun n => R (.d (.bool (isin n))) δ) .mk := rfl
omit [Tb] in
@[simp ↓] theorem isxC_x (a : Addr) (cls : Value) (d : Option Addr) (n : Str) (fs : List (Str × PyData)) (k : Str → Prop) (u : Stop k) : isxC (some (.xc a cls d (excD n fs))) a cls d k u = k n := propext ⟨fun ⟨m, gs, e, h⟩ => by
  simp only [Option.some.injEq, Cell.xc.injEq, true_and] at e
  obtain ⟨rfl, _⟩ := excD_inj e
  exact h, fun h => ⟨n, fs, rfl, h⟩⟩
theorem xfC_of {a : Addr} {cls : Value} {d : Option Addr} {n f : Str} {fs : List (Str × PyData)} {y : PyData} {k : PyData → Prop} {u : Stop k} (hl : fs.lookup f = some y) : xfC (some (.xc a cls d (excD n fs))) a cls d f k u = k y := propext ⟨fun ⟨m, gs, z, e, l, h⟩ => by
  simp only [Option.some.injEq, Cell.xc.injEq, true_and] at e
  obtain ⟨_, rfl⟩ := excD_inj e
  rw [hl] at l
  cases l
  exact h, fun h => ⟨n, fs, y, rfl, hl, h⟩⟩
omit [Tb] in
@[simp ↓] theorem xfC_1 (a : Addr) (cls : Value) (d : Option Addr) (n f : Str) (y : PyData) (k : PyData → Prop) (u : Stop k) : xfC (some (.xc a cls d (excD n [(f, y)]))) a cls d f k u = k y := xfC_of (by simp)
section
variable {X : Cx} {TL : XNames} {a : Addr} {oe : Obj} {cls : Value} {d : Option Addr} {pn : List (Addr × Obj)} {pos p : Pos}
theorem je_xf {i : Nat} {y f : Str} (hN : X.N[i]? = some y) (hvis : Vis X.env.scope y) (hz : Zc cls d oe) (hv : ∃ vs, oe.data = .fields vs) (hC : ∃ n C, (n, C) ∈ TL ∧ cls = .ref C) (hX : ∀ n C, (n, C) ∈ TL → XfC X.K C ∧ PySem.W.findIn X.K (.ref C) f = some none)
    (hd : (y == ("__debug__" : Str)) = false := by decide) (hcd : (y == ("__classdict__" : Str)) = false := by decide) (hb : attributeBase (.Name y p) f X.env (eval (.Name y p) X.env) = eval (.Name y p) X.env := by rfl) :
    JE (X.suite a ((a, oe) :: pn)) (.Attribute (.Name y p) f pos) (wXf a cls d i f) := by
  obtain ⟨n0, C, hT, hcl⟩ := hC
  obtain ⟨q1, q2⟩ := hX n0 C hT
  refine pe_le (pe_xf q1 q2 hz hv (pe_var (X := X.suite a ((a, oe) :: pn)) hN hvis hd hcd) hb) fun pins s σ H Q I ⟨B, G, δ, R, rel, ⟨n, fs, z, e, l, hR⟩, k⟩ => ?_
  obtain ⟨o, hσ, ho, n1, C1, gs, e1, e2, e3, e4⟩ := rel.at e
  obtain ⟨rfl, rfl⟩ := excD_inj e1
  rcases e4 with ⟨dd, ws, q3, q4, q5, q6⟩ | ⟨rfl, _⟩
  · obtain ⟨v, h1, h2⟩ := look_in q5 q6 l
    exact ⟨.ref a, by rw [hσ, ho], rfl, hcl, dd, ws, v, q3, rel.sg _ _ q4, h1, k v H G _ _ hR (Same.refl _) rel h2⟩
  · cases l
def rIsX (K : PySem.W.Frag) (D a : Addr) : List V → Hp → VK → Prop := rIsE K D a
theorem call_isX {D : Addr} (C : ExcC X.K D) (hz : Zc (.ref D) d oe) (hv : ∃ vs, oe.data = .fields vs) : CallR (X.suite a ((a, oe) :: pn)) (.builtin "isinstance") (fun xs H Q => (d = none ∨ ∃ dd fs, d = some dd ∧ H dd = some (.xd fs)) ∧ rIsE X.K D a xs H Q) := by
  intro pins s σ H xs us Q I r ⟨hdd, h⟩
  obtain ⟨c, cv, b, rfl, hcv, e, q⟩ := h
  cases r with
  | cons rx rr =>
    cases rr with
    | cons rt rr =>
      cases rr
      cases rx
      have ec := hcv _ rt
      subst ec
      obtain ⟨hget, _⟩ := I.pin (a, oe) (List.mem_append.mpr (.inl List.mem_cons_self))
      obtain ⟨vs, hv⟩ := hv
      obtain ⟨od, J⟩ : ∃ od, PySem.W.InstAt s.heap a oe D od := by
        rcases hdd with rfl | ⟨dd, fs, rfl, hx⟩
        · refine ⟨none, hget, hz.1, by unfold PySem.W.notCls; rw [hv] <;> rfl, ?_⟩
          rw [hz.2]
          trivial
        · have hx : ObjOk X.prog X.w H s.heap dd (.xd fs) := I.hok dd _ hx
          obtain ⟨mA, hns, hr⟩ := hx
          obtain ⟨od, ho, hl⟩ := lookIn_ns hns
          exact ⟨some od, hget, hz.1, by unfold PySem.W.notCls; rw [hv] <;> rfl, by rw [hz.2]; exact ho⟩
      exact PySem.W.kia_one (ClsBy.kit ⟨C.hg, C.hk, C.hs, C.hd, C.ha, C.hn, C.ht, C.hm⟩) I.kIn J e (fun z => nomatch z) fun tk => ⟨.bl b, H, I.kept (t' := tk) fun _ _ z => z, rfl, q⟩
theorem je_isx {i : Nat} {y c : Str} {v : V} {cv : Value} {isin : Str → Bool} {px py pc : Pos} (hN : X.N[i]? = some y) (hvis : Vis X.env.scope y) (hz : Zc cls d oe) (hv : ∃ vs, oe.data = .fields vs) (hC : ∃ n C, (n, C) ∈ TL ∧ cls = .ref C)
    (hnm : ∀ n C, (n, C) ∈ TL → (PySem.W.clsIn X.K C).map (·.name) = some n) (hX : ∀ n C, (n, C) ∈ TL → ExcC X.K C ∧ PySem.W.kitOne X.K (.ref C) cv = some (isin n)) (hc : PE (X.suite a ((a, oe) :: pn)) (.Name c pc) (tC v)) (hcv : ∀ u, RelV v u → u = cv)
    (hg : Gl X "isinstance") (hm : X.mg "isinstance" = none) (hd : (y == ("__debug__" : Str)) = false := by decide) (hcd : (y == ("__classdict__" : Str)) = false := by decide)
    (hs1 : starEach [.Name y py, .Name c pc] X.env = (false, eval (.Name y py) X.env) :: starEach [.Name c pc] X.env := by rfl) (hs2 : starEach [.Name c pc] X.env = (false, eval (.Name c pc) X.env) :: starEach [] X.env := by rfl) (hpl : (backTo pos (starEach [.Name c pc] X.env)).any (·.1) = false := by rfl) :
    JE (X.suite a ((a, oe) :: pn)) (.Call (.Name "isinstance" px) [.Name y py, .Name c pc] [] pos) (wIsx a cls d i isin) := by
  obtain ⟨n0, C, hT, hcl⟩ := hC
  obtain ⟨q1, q2⟩ := hX n0 C hT
  subst hcl
  refine pe_le (pe_callB (call_isX q1 hz hv) hg hm (by rfl) (pa_cons (pe_var (X := X.suite a ((a, oe) :: pn)) hN hvis hd hcd) (pa_cons hc pa_nil hs2) hs1) (by decide) (by decide) hs1 hpl) fun pins s σ H Q I ⟨B, G, δ, R, rel, ⟨n, fs, e, hR⟩, k⟩ => ?_
  obtain ⟨o, hσ, ho, n1, C1, gs, e1, e2, e3, e4⟩ := rel.at e
  obtain ⟨rfl, rfl⟩ := excD_inj e1
  obtain rfl : C = C1 := Value.ref.inj e2
  have hn : n0 = n := by
    have := hnm n0 C hT
    rw [e3] at this
    exact (Option.some.inj this).symm
  subst hn
  refine ⟨.ref a, by rw [hσ, ho], ?_, v, cv, isin n0, rfl, hcv, q2, k _ H G _ _ hR (Same.refl _) rel (Dn.bl _)⟩
  rcases e4 with ⟨dd, ws, q3, q4, _⟩ | ⟨_, q3⟩
  · exact .inr ⟨dd, ws, q3, rel.sg _ _ q4⟩
  · exact .inl q3
/-- C(): no field -/
def wMk0 (n : Str) : DMk := fun δ Z => Z (excD n []) δ
theorem jmk0 {x n : Str} {C : Addr} {bmB : List Value} {B newId initId : String} (hT : (n, C) ∈ TL) (hn : (PySem.W.clsIn X.K C).map (·.name) = some n) (F : ExcBaseFacts B newId initId bmB) (q : PySem.W.excIn X.K C bmB newId = true) (gC : X.mg x = some (.ref C)) (kC : PySem.W.keepIn X.K (.ref C) = true) (r : Raises X (.ref C)) (hg : Gl X x)
    (hdb : (x == ("__debug__" : Str)) = false := by decide) : JMk X TL (.Call (.Name x p) [] [] pos) (wMk0 n) := by
  intro pins s σ H Q I ⟨B, G, δ, Z, rel, hw, k⟩
  refine wpAny_Call_Name_kw (ld_glob I hg gC ?_ hdb)
  refine PySem.W.callWith_K0 I.kIn kC ?_
  show wpAny _ _ (call (.ref C) []) _ _ _
  obtain ⟨hp, g, dr, tk, os⟩ := s
  obtain ⟨bm, N, nm, qn, bs, hdct, sn, sub, ab, col, dd, k0, k1, k2, k3, k5, mN, hC, hN, hni, T⟩ := exc_obj I.kIn q
  refine wpAny_call_exc_subT F T hC hN hni (fun h' e hm => ?_) (by show 0 ≤ sizeLine; exact Nat.zero_le _)
  exact L2N.mk_of I hm r (k _ _ _ _ _ _ hw (Same.refl _) rel ⟨⟨n, C, [], rfl, rfl, hn, .inr ⟨rfl, rfl⟩⟩, n, C, hT, rfl⟩) (I.hok.gone hm.new)
end
end DL
set_option Elab.async false
set_option linter.all false
set_option maxRecDepth 100000
set_option maxHeartbeats 4000000
namespace DL
open PySem PySem.Spec PyProof.Rows L2
variable [Tb]
/-! ### rows for what may raise -/
omit [Tb] in
@[simp ↓] theorem tryE_nx (i : Nat) (cat : Str → Bool) (wh : Addr → Value → Option Addr → DTS) (E : DEnds) : (tryE i cat wh E).nx = E.nx := rfl
omit [Tb] in
@[simp ↓] theorem tryE_bk (i : Nat) (cat : Str → Bool) (wh : Addr → Value → Option Addr → DTS) (E : DEnds) : (tryE i cat wh E).bk = E.bk := rfl
omit [Tb] in
@[simp ↓] theorem tryE_ct (i : Nat) (cat : Str → Bool) (wh : Addr → Value → Option Addr → DTS) (E : DEnds) : (tryE i cat wh E).ct = E.ct := rfl
theorem tryE_rt (i : Nat) (cat : Str → Bool) (wh : Addr → Value → Option Addr → DTS) (E : DEnds) (x : PyData) (δ' : DS) : (tryE i cat wh E).rt x δ' = onX x (fun x => E.rt x δ') (fun n fs => if cat n = true then ∀ (a : Addr) (cls : Value) (d : Option Addr), wh a cls d (hndE i E) (δ'.set i (.xc a cls d (excD n fs))) else E.rt (excD n fs) δ') .mk := rfl
omit [Tb] in
@[simp ↓] theorem tryE_rtX (i : Nat) (cat : Str → Bool) (wh : Addr → Value → Option Addr → DTS) (E : DEnds) (n : Str) (fs : List (Str × PyData)) (δ' : DS) : (tryE i cat wh E).rt (excD n fs) δ' = if cat n = true then ∀ (a : Addr) (cls : Value) (d : Option Addr), wh a cls d (hndE i E) (δ'.set i (.xc a cls d (excD n fs))) else E.rt (excD n fs) δ' := by rw [tryE_rt, onX_exc]
theorem tryE_rtN {i : Nat} {cat : Str → Bool} {wh : Addr → Value → Option Addr → DTS} {E : DEnds} {x : PyData} {δ' : DS} (h : notX x) : (tryE i cat wh E).rt x δ' = E.rt x δ' := by rw [tryE_rt, onX_of h]
omit [Tb] in
@[simp ↓] theorem tryE_rt_tup (i : Nat) (cat : Str → Bool) (wh : Addr → Value → Option Addr → DTS) (E : DEnds) (xs : List PyData) (δ' : DS) : (tryE i cat wh E).rt (.tuple xs) δ' = E.rt (.tuple xs) δ' := tryE_rtN (notX_tup xs)
omit [Tb] in
@[simp ↓] theorem tryE_rt_list (i : Nat) (cat : Str → Bool) (wh : Addr → Value → Option Addr → DTS) (E : DEnds) (xs : List PyData) (δ' : DS) : (tryE i cat wh E).rt (.list xs) δ' = E.rt (.list xs) δ' := tryE_rtN (notX_list xs)
omit [Tb] in
@[simp ↓] theorem tryE_rt_bool (i : Nat) (cat : Str → Bool) (wh : Addr → Value → Option Addr → DTS) (E : DEnds) (b : Bool) (δ' : DS) : (tryE i cat wh E).rt (.bool b) δ' = E.rt (.bool b) δ' := tryE_rtN (notX_bool b)
omit [Tb] in
@[simp ↓] theorem hndE_nx (i : Nat) (E : DEnds) (δ : DS) : (hndE i E).nx δ = E.nx (δ.set i .em) := rfl
omit [Tb] in
@[simp ↓] theorem hndE_rt (i : Nat) (E : DEnds) (x : PyData) (δ : DS) : (hndE i E).rt x δ = E.rt x (δ.set i .em) := rfl
omit [Tb] in
@[simp ↓] theorem noXE_nx (E : DEnds) : (noXE E).nx = E.nx := rfl
omit [Tb] in
@[simp ↓] theorem noXE_bk (E : DEnds) : (noXE E).bk = E.bk := rfl
omit [Tb] in
@[simp ↓] theorem noXE_ct (E : DEnds) : (noXE E).ct = E.ct := rfl
omit [Tb] in
@[simp ↓] theorem noXE_rt (E : DEnds) (x : PyData) (δ : DS) : (noXE E).rt x δ = (notX x ∧ E.rt x δ) := rfl
omit [Tb] in
@[simp ↓] theorem wTry_ap (i : Nat) (cat : Str → Bool) (wb : DTS) (wh : Addr → Value → Option Addr → DTS) (E : DEnds) (δ : DS) : wTry i cat wb wh E δ = wb (tryE i cat wh E) δ := rfl
omit [Tb] in
@[simp ↓] theorem wNoX_ap (w : DTS) (E : DEnds) (δ : DS) : wNoX w E δ = w (noXE E) δ := rfl
omit [Tb] in
@[simp ↓] theorem wRetX_ap (w : DEX) (E : DEnds) (δ : DS) : wRetX w E δ = w δ (fun o δ1 => lk o δ1 fun x δ2 => E.rt x δ2) E.rt := rfl
omit [Tb] in
@[simp ↓] theorem wDropX_ap (w : DEX) (E : DEnds) (δ : DS) : wDropX w E δ = w δ (fun _ δ1 => E.nx δ1) E.rt := rfl
omit [Tb] in
@[simp ↓] theorem wSetX_ap (i : Nat) (w : DEX) (E : DEnds) (δ : DS) : wSetX i w E δ = w δ (fun o δ1 => lk o δ1 fun x δ2 => E.nx (δ2.set i (.d x))) E.rt := rfl
omit [Tb] in
@[simp ↓] theorem wAsgGX_ap (w : DEX) (g : DTG) (E : DEnds) (δ : DS) : wAsgGX w g E δ = w δ (fun o δ1 => lk o δ1 fun x δ2 => g x δ2 E.nx) E.rt := rfl
omit [Tb] in
@[simp ↓] theorem wRaise_ap (w : DMk) (E : DEnds) (δ : DS) : wRaise w E δ = w δ E.rt := rfl
omit [Tb] in
@[simp ↓] theorem wMk0_ap (n : Str) (δ : DS) (Z : PyData → DS → Prop) : wMk0 n δ Z = Z (excD n []) δ := rfl
omit [Tb] in
@[simp ↓] theorem wMk1_ap (n f : Str) (w : DA) (δ : DS) (Z : PyData → DS → Prop) : wMk1 n f w δ Z = w δ fun os δ1 => lkL os δ1 fun xs δ2 => match xs with
  | [x] => Z (excD n [(f, x)]) δ2
  | _ => False := by
  unfold wMk1
  congr 1; funext os δ1; congr 1; funext xs δ2
  match xs with
  | [] => simp
  | [x] => simp
  | x :: y :: l => simp
omit [Tb] in
@[simp ↓] theorem wMk2_ap (n f g : Str) (w : DA) (δ : DS) (Z : PyData → DS → Prop) : wMk2 n f g w δ Z = w δ fun os δ1 => lkL os δ1 fun xs δ2 => match xs with
  | [x, y] => Z (excD n [(g, y), (f, x)]) δ2
  | _ => False := by
  unfold wMk2
  congr 1; funext os δ1; congr 1; funext xs δ2
  match xs with
  | [] => simp
  | [x] => simp
  | [x, y] => exact propext ⟨fun ⟨a, b, e, h⟩ => by cases e; exact h, fun h => ⟨x, y, rfl, h⟩⟩
  | x :: y :: z :: l => simp
omit [Tb] in
@[simp ↓] theorem axNil_ap (δ : DS) (R : List Opd → DS → Prop) (Z : PyData → DS → Prop) : axNil δ R Z = R [] δ := rfl
omit [Tb] in
@[simp ↓] theorem axCons_ap (w : DEX) (r : DAX) (δ : DS) (R : List Opd → DS → Prop) (Z : PyData → DS → Prop) : axCons w r δ R Z = w δ (fun o δ1 => r δ1 (fun os δ2 => R (o :: os) δ2) Z) Z := rfl
omit [Tb] in
@[simp ↓] theorem xE_ap (w : DE) (δ : DS) (R : Opd → DS → Prop) (Z : PyData → DS → Prop) : xE w δ R Z = w δ R := rfl
omit [Tb] in
@[simp ↓] theorem xA_ap (w : DA) (δ : DS) (R : List Opd → DS → Prop) (Z : PyData → DS → Prop) : xA w δ R Z = w δ R := rfl
def noZ : PyData → DS → Prop := fun _ _ => False
omit [Tb] in
@[simp ↓] theorem nX_ap (w : DEX) (δ : DS) (R : Opd → DS → Prop) : nX w δ R = w δ R noZ := rfl
omit [Tb] in
@[simp ↓] theorem noZ_ap (x : PyData) (δ : DS) : noZ x δ = False := rfl
omit [Tb] in
@[simp ↓] theorem wTupX_ap (w : DAX) (δ : DS) (R : Opd → DS → Prop) (Z : PyData → DS → Prop) : wTupX w δ R Z = w δ (fun os δ1 => lkL os δ1 fun xs δ2 => xs.length ≤ 1000 ∧ R (.d (.tuple xs)) δ2) Z := rfl
omit [Tb] in
@[simp ↓] theorem wLstX_ap (w : DAX) (δ : DS) (R : Opd → DS → Prop) (Z : PyData → DS → Prop) : wLstX w δ R Z = w δ (fun os δ1 => lkL os δ1 fun xs δ2 => xs.length ≤ 1000 ∧ R (.d (.list xs)) δ2) Z := rfl
omit [Tb] in
@[simp ↓] theorem wIfEX_ap (t : DT) (wa wb : DEX) (δ : DS) (R : Opd → DS → Prop) (Z : PyData → DS → Prop) : wIfEX t wa wb δ R Z = t δ fun k δ1 => if k = true then wa δ1 R Z else wb δ1 R Z := rfl
omit [Tb] in
@[simp ↓] theorem wCallX_ap (m : List Bool) (sp : DSp) (w : DAX) (δ : DS) (R : Opd → DS → Prop) (Z : PyData → DS → Prop) : wCallX m sp w δ R Z = w δ (fun os δ1 => lkM m os δ1 fun os' δ2 => (slotsOf os').Nodup ∧ ask sp (os'.map (cellOf δ2)) (fun x cs => onX x (fun x => R (.d x) (putBack os' cs δ2)) (fun n fs => Z (excD n fs) (putBack os' cs δ2)) .mk) .mk) Z := rfl
/-- a value that is none of them -/
theorem onX_is {x : PyData} {k : PyData → Prop} {kx : Str → List (Str × PyData) → Prop} {u : Stop (k, kx)} (hn : notX x) (h : k x) : onX x k kx u := by rw [onX_of hn]; exact h
end DL
set_option Elab.async false
set_option linter.all false
set_option maxRecDepth 100000
set_option maxHeartbeats 4000000
namespace DL
open PySem PySem.Spec PyProof.Rows L2 NdefX
variable [Tb]
/-! ### what the written part tells of error classes -/
/-- the class C named n -/
structure CF (K : PySem.W.Frag) (n : Str) (C : Addr) : Prop where
  T : OexC K C
  nm : (PySem.W.clsIn K C).map (·.name) = some n
  xf : XfC K C
  ec : ExcC K C
theorem cf_mk {K : PySem.W.Frag} {n nm q : Str} {C N : Addr} {bs bm : List Value} {sn : List Str} {sub : List Value} {ab : Bool} {col : Option Bool} {dd : Option Addr} {k0 k1 k2 k3 k5 : Option Value} {cd : ClassData}
    (lc : K.lookup C = some (excClassObj nm q C N bs bm true sn sub ab col dd k0 k1 k2 k3 k5 "ValueError.__new__")) (bmv : PySem.HandSPX.refsVE bm = true) (c : PySem.W.clsIn K C = some cd) (cn : cd.name = n)
    (sa : PySem.W.findIn K (.ref C) "__setattr__" = some (some (.builtin "object.__setattr__"))) (exC : PySem.W.subIn K (.ref C) (.type "BaseException") = some true) (tyC : PySem.W.typeIn K (.ref C) = some (.type "type")) (kC : PySem.W.keepIn K (.ref C) = true)
    (ga : PySem.W.findIn K (.ref C) "__getattribute__" = some (some (.builtin "BaseException.__getattribute__"))) (gg : PySem.W.findIn K (.ref C) "__getattr__" = some none) (hd : PySem.W.hasDictIn K C = true)
    (ha : PySem.W.findIn K (.ref C) "__class__" = some (some (.builtin "object.__class__"))) (hn : PySem.W.specialIn K (.builtin "object.__class__") "__get__" = some (some (.builtin "getset_descriptor.__get__"))) (ht : PySem.W.takesIn K (.builtin "object.__class__") = some true) (hm : PySem.W.mroIn K C (.type "object") = some true) : CF K n C :=
  ⟨⟨⟨nm, q, N, bs, bm, sn, sub, ab, col, dd, k0, k1, k2, k3, k5, lc, bmv⟩, sa, exC, tyC, kC⟩, by rw [c, ← cn]; rfl, ⟨ga, gg, exC, hd⟩, ⟨ga, gg, exC, hd, ha, hn, ht, hm⟩⟩
/-- it is raised with one field -/
def XC1 (P : Program) (w : World) (K : PySem.W.Frag) (mg : Str → Option Value) (base : Heap) (TL : XNames) (n f : Str) : Prop :=
  ∃ (C fI : Addr) (fd : FuncData) (ps : List Str), (n, C) ∈ TL ∧ CF K n C ∧ PySem.W.findIn K (.ref C) "__init__" = some (some (.ref fI)) ∧ PySem.W.typeIn K (.ref fI) = some (.type "function") ∧ FnOk P w K mg base CX0 1 fI fd ps (spI1 C f) ∧ Binds K fd ps [] ∧ mg n = some (.ref C)
def XC2 (P : Program) (w : World) (K : PySem.W.Frag) (mg : Str → Option Value) (base : Heap) (TL : XNames) (n f g : Str) : Prop :=
  ∃ (C fI : Addr) (fd : FuncData) (ps : List Str), (n, C) ∈ TL ∧ CF K n C ∧ PySem.W.findIn K (.ref C) "__init__" = some (some (.ref fI)) ∧ PySem.W.typeIn K (.ref fI) = some (.type "function") ∧ FnOk P w K mg base CX0 1 fI fd ps (spI2 C f g) ∧ Binds K fd ps [] ∧ mg n = some (.ref C)
def XC0 (K : PySem.W.Frag) (mg : Str → Option Value) (TL : XNames) (n : Str) : Prop :=
  ∃ (C : Addr) (bmB : List Value), (n, C) ∈ TL ∧ CF K n C ∧ ExcBaseFacts "ValueError" "ValueError.__new__" "ValueError.__init__" bmB ∧ PySem.W.excIn K C bmB "ValueError.__new__" = true ∧ mg n = some (.ref C)
section
variable {X : Cx} {TL : XNames} {p pos : Pos} {e : Expr} {es : List Expr} {n f g : Str} {wa : DA}
theorem jmk1x (h : XC1 X.prog X.w X.K X.mg X.base TL n f) (hr : RoomG 2 X.A) (hg : Gl X n) (ha : JA X (e :: es) wa)
    (hdb : (n == ("__debug__" : Str)) = false := by decide) (he : starEach (e :: es) X.env = (false, eval e X.env) :: starEach es X.env := by rfl) (hpl : (backTo pos (starEach es X.env)).any (·.1) = false := by rfl) :
    JMk X TL (.Call (.Name n p) (e :: es) [] pos) (wMk1 n f wa) := by
  obtain ⟨C, fI, fd, ps, h1, h2, h3, h4, h5, h6, h7⟩ := h
  exact jmk1 h1 h2.nm h2.T h3 h4 h5 hr.rm h6 hg h7 ha hdb he hpl
theorem jmk2x (h : XC2 X.prog X.w X.K X.mg X.base TL n f g) (hr : RoomG 2 X.A) (hg : Gl X n) (ha : JA X (e :: es) wa)
    (hdb : (n == ("__debug__" : Str)) = false := by decide) (he : starEach (e :: es) X.env = (false, eval e X.env) :: starEach es X.env := by rfl) (hpl : (backTo pos (starEach es X.env)).any (·.1) = false := by rfl) :
    JMk X TL (.Call (.Name n p) (e :: es) [] pos) (wMk2 n f g wa) := by
  obtain ⟨C, fI, fd, ps, h1, h2, h3, h4, h5, h6, h7⟩ := h
  exact jmk2 h1 h2.nm h2.T h3 h4 h5 hr.rm h6 hg h7 ha hdb he hpl
theorem jmk0x (h : XC0 X.K X.mg TL n) (hg : Gl X n) (hdb : (n == ("__debug__" : Str)) = false := by decide) : JMk X TL (.Call (.Name n p) [] [] pos) (wMk0 n) := by
  obtain ⟨C, bmB, h1, h2, h3, h4, h5⟩ := h
  exact jmk0 h1 h2.nm h3 h4 h5 h2.T.kC (raises_own h2.T.exC h2.T.tyC) hg hdb
end
/-- except x: which classes it catches -/
def YC (K : PySem.W.Frag) (mg : Str → Option Value) (TL : XNames) (x : Str) (cat : Str → Bool) : Prop := ∃ c, mg x = some c ∧ ∀ n C, (n, C) ∈ TL → PySem.W.exmOne K (.ref C) c = some (cat n)
/-- isinstance(e, x) -/
def IC (K : PySem.W.Frag) (mg : Str → Option Value) (TL : XNames) (x : Str) (isin : Str → Bool) : Prop := ∃ c, mg x = some (.ref c) ∧ ∀ n C, (n, C) ∈ TL → PySem.W.kitOne K (.ref C) (.ref c) = some (isin n)
def ICb (K : PySem.W.Frag) (mg : Str → Option Value) (TL : XNames) (x : String) (isin : Str → Bool) : Prop := mg (Str.ofString x) = none ∧ bootBuiltins (Str.ofString x) = some (.type x) ∧ ∀ n C, (n, C) ∈ TL → PySem.W.kitOne K (.ref C) (.type x) = some (isin n)
def TLok (K : PySem.W.Frag) (TL : XNames) : Prop := ∀ n C, (n, C) ∈ TL → CF K n C
def FC (K : PySem.W.Frag) (TL : XNames) (f : Str) : Prop := ∀ n C, (n, C) ∈ TL → PySem.W.findIn K (.ref C) f = some none
section
variable {X : Cx} {TL : XNames}
theorem jsx_tryx {x n : Str} {i : Nat} {body suite : List Stmt} {b₀ : Stmt} {np pos pos' : Pos} {cat : Str → Bool} {wb : DTS} {wh : Addr → Value → Option Addr → DTS} (tl : TLok X.K TL) (y : YC X.K X.mg TL x cat)
    (hs : X.stack = X.env :: X.outer) (hf : X.env.frame = some X.env.locals) (hN : X.N.Nodup) (hi : X.N[i]? = some n) (hln : X.env.kindOf n = some .local) (hg : Gl X x)
    (hb : ∀ (pn : List (Addr × Obj)) (xe : Value → Shared → Prop), PassesOwn (model X.prog X.w) X.A X.env xe → JSsX (X.tr pn xe) TL body wb)
    (hsu : ∀ (a : Addr) (oe : Obj) (cls : Value) (d : Option Addr) (pn : List (Addr × Obj)), Zc cls d oe → (∃ vs, oe.data = .fields vs) → (∃ n C, (n, C) ∈ TL ∧ cls = .ref C) → JSs (X.suite a ((a, oe) :: pn)) (b₀ :: suite) (wh a cls d)) (hdb : (x == ("__debug__" : Str)) = false := by decide) :
    JSX X TL (.Try body [.ExceptHandler (some (.Name x np)) (some n) (b₀ :: suite) pos'] [] [] pos) (wTry i cat wb wh) := by
  obtain ⟨c, h1, h2⟩ := y
  exact jsx_try hs hf hN hi hln ⟨hg, hdb, .inl h1⟩ (fun n C m => (tl n C m).nm) h2 hb hsu
variable {a : Addr} {oe : Obj} {cls : Value} {d : Option Addr} {pn : List (Addr × Obj)} {pos p : Pos}
theorem je_xfx {i : Nat} {y f : Str} (tl : TLok X.K TL) (fc : FC X.K TL f) (hz : Zc cls d oe) (hv : ∃ vs, oe.data = .fields vs) (hC : ∃ n C, (n, C) ∈ TL ∧ cls = .ref C) (hN : X.N[i]? = some y) (hvis : Vis X.env.scope y)
    (hd : (y == ("__debug__" : Str)) = false := by decide) (hcd : (y == ("__classdict__" : Str)) = false := by decide) (hb : attributeBase (.Name y p) f X.env (eval (.Name y p) X.env) = eval (.Name y p) X.env := by rfl) :
    JE (X.suite a ((a, oe) :: pn)) (.Attribute (.Name y p) f pos) (wXf a cls d i f) := je_xf hN hvis hz hv hC (fun n C m => ⟨(tl n C m).xf, fc n C m⟩) hd hcd hb
theorem je_isxx {i : Nat} {y c : Str} {isin : Str → Bool} {px py pc : Pos} (tl : TLok X.K TL) (ic : IC X.K X.mg TL c isin) (hz : Zc cls d oe) (hv : ∃ vs, oe.data = .fields vs) (hC : ∃ n C, (n, C) ∈ TL ∧ cls = .ref C) (hN : X.N[i]? = some y) (hvis : Vis X.env.scope y)
    (hgc : Gl X c) (hg : Gl X "isinstance") (hm : X.mg "isinstance" = none) (hd : (y == ("__debug__" : Str)) = false := by decide) (hcd : (y == ("__classdict__" : Str)) = false := by decide) (hdc : (c == ("__debug__" : Str)) = false := by decide)
    (hs1 : starEach [.Name y py, .Name c pc] X.env = (false, eval (.Name y py) X.env) :: starEach [.Name c pc] X.env := by rfl) (hs2 : starEach [.Name c pc] X.env = (false, eval (.Name c pc) X.env) :: starEach [] X.env := by rfl) (hpl : (backTo pos (starEach [.Name c pc] X.env)).any (·.1) = false := by rfl) :
    JE (X.suite a ((a, oe) :: pn)) (.Call (.Name "isinstance" px) [.Name y py, .Name c pc] [] pos) (wIsx a cls d i isin) := by
  obtain ⟨cc, h1, h2⟩ := ic
  exact je_isx (v := .ref cc) (cv := .ref cc) hN hvis hz hv hC (fun n C m => (tl n C m).nm) (fun n C m => ⟨(tl n C m).ec, h2 n C m⟩) (pe_glob (X := X.suite a ((a, oe) :: pn)) hgc h1 rfl hdc) (fun u r => r) hg hm hd hcd hs1 hs2 hpl
theorem je_isxb {i : Nat} {y : Str} {c : String} {isin : Str → Bool} {px py pc : Pos} (tl : TLok X.K TL) (ic : ICb X.K X.mg TL c isin) (hz : Zc cls d oe) (hv : ∃ vs, oe.data = .fields vs) (hC : ∃ n C, (n, C) ∈ TL ∧ cls = .ref C) (hN : X.N[i]? = some y) (hvis : Vis X.env.scope y)
    (hgc : Gl X (Str.ofString c)) (hg : Gl X "isinstance") (hm : X.mg "isinstance" = none) (hnn : Str.ofString c ≠ "__name__" := by decide) (hd : (y == ("__debug__" : Str)) = false := by decide) (hcd : (y == ("__classdict__" : Str)) = false := by decide) (hdc : (Str.ofString c == ("__debug__" : Str)) = false := by decide)
    (hs1 : starEach [.Name y py, .Name (Str.ofString c) pc] X.env = (false, eval (.Name y py) X.env) :: starEach [.Name (Str.ofString c) pc] X.env := by rfl) (hs2 : starEach [.Name (Str.ofString c) pc] X.env = (false, eval (.Name (Str.ofString c) pc) X.env) :: starEach [] X.env := by rfl) (hpl : (backTo pos (starEach [.Name (Str.ofString c) pc] X.env)).any (·.1) = false := by rfl) :
    JE (X.suite a ((a, oe) :: pn)) (.Call (.Name "isinstance" px) [.Name y py, .Name (Str.ofString c) pc] [] pos) (wIsx a cls d i isin) := by
  obtain ⟨h0, h1, h2⟩ := ic
  exact je_isx (v := .ty c) (cv := .type c) hN hvis hz hv hC (fun n C m => (tl n C m).nm) (fun n C m => ⟨(tl n C m).ec, h2 n C m⟩) (pe_bltn (X := X.suite a ((a, oe) :: pn)) hgc h0 h1 rfl hnn hdc) (fun u r => r) hg hm hd hcd hs1 hs2 hpl
end
/-! ### the facts, as the written part answers them -/
section
open PySem.W
variable {P : Program} {w : World} {K : Frag} {mg : Str → Option Value} {base h : Heap} {TL : XNames}
theorem xc1_mk {n x qual : Str} {C fI cda cc : Addr} {file : Str} {tf : Tok} {params : Arguments} {scope : Scope} {ar : Arg} {p0 p1 p2 p3 p4 p5 q0 q1 q2 q3 : Pos} {oc ct ccl cl doc pm : Value} {an od cdd cld : Option Addr} {osl ccs csl : Array (Option Value)} {cvs : Array Value} {cdD : ClassData}
    (KX : K.In h) (G : h.Ns mainGlobals mg) (hT : (n, C) ∈ TL) (F : CF K n C) (a : nsIn K mainGlobals n = some (some (.ref C))) (c : clsIn K C = some cdD) (sub : mroIn K C (.ref C) = some true) (opq : nsIn K cStatics "thirdparty.any" = some none) (ini : ks_superIn K C C "__init__" = some (some (.builtin "ValueError.__init__"))) (ve : subIn K (.ref C) (.type "ValueError") = some true)
    (iC : findIn K (.ref C) "__init__" = some (some (.ref fI))) (tI : typeIn K (.ref fI) = some (.type "function"))
    (lk : K.lookup fI = some ⟨oc, od, .func (fnX "__init__" qual params [.Expr (.Call (.Attribute (.Call (.Name "super" p0) [] [] p1) "__init__" p2) [.Name x p3] [] p4) p5, .Assign [.Attribute (.Name "self" q0) x q1] (.Name x q2) q3] scope [("__class__", cc)] .none .none doc pm an (.ref cda) ct), osl⟩)
    (hcd : codeIn K (.ref cda) qual = true) (hcode : K.lookup cda = some ⟨ccl, cdd, .fields cvs, ccs⟩) (hvs : cvs[2]? = some (.str file tf)) (hfile : ((P.main.file : Str) == file) = true)
    (hcell : K.lookup cc = some ⟨cl, cld, .cell (some (.ref C)), csl⟩) (hsm : nsIn K mainGlobals "super" = some none)
    (S : nscB ["self", x, "__class__"] ["self", x] ["__class__"] scope = true) (hp : (params.posonlyargs ++ params.args).head? = some ar) (har : ([("self" : Str), x] : List Str).head? = some ar.arg) (hnd : ([("self" : Str), x] : List Str).Nodup)
    (hks : scope.names.lookup ("super" : Str) = some .globalImplicit) (htop : (P.main.scope.names.lookup ("super" : Str)).isSome = false)
    (hst : ∀ L, starEach [.Name x p3] (ksEnv qual scope L fI (.ref cda) cc) = (false, eval (.Name x p3) (ksEnv qual scope L fI (.ref cda) cc)) :: starEach [] (ksEnv qual scope L fI (.ref cda) cc))
    (hev : ∀ L, ∃ pl, eval (.Call (.Attribute (.Call (.Name "super" p0) [] [] p1) "__init__" p2) [.Name x p3] [] p4) (ksEnv qual scope L fI (.ref cda) cc) = (do
      let ov ← attributeBase (.Call (.Name "super" p0) [] [] p1) "__init__" (ksEnv qual scope L fI (.ref cda) cc) (eval (.Call (.Name "super" p0) [] [] p1) (ksEnv qual scope L fI (.ref cda) cc))
      standAt p2.atName
      let (f, first) ← holding [ov] (getMethod ov "__init__" pl)
      callWith p4 f first (backTo p4 (starEach [.Name x p3] (ksEnv qual scope L fI (.ref cda) cc))) []))
    (hsw : ∀ L, swapsWith (.Call (.Attribute (.Call (.Name "super" p0) [] [] p1) "__init__" p2) [.Name x p3] [] p4) none p5.line (ksEnv qual scope L fI (.ref cda) cc) = pure false)
    (hin : ∀ L, interactive (ksEnv qual scope L fI (.ref cda) cc) = false)
    (hsw2 : ∀ env : Env, swapsWith (.Name x q2) (some (.Attribute (.Name "self" q0) x q1)) q3.line env = pure false)
    (hf : findIn K (.ref C) x = some none) (hdx : (x == ("__debug__" : Str)) = false) (hdc : (x == ("__classdict__" : Str)) = false)
    (hb : ∀ us : List Value, us.length = 2 → bindArgs (fnX "__init__" qual params [.Expr (.Call (.Attribute (.Call (.Name "super" p0) [] [] p1) "__init__" p2) [.Name x p3] [] p4) p5, .Assign [.Attribute (.Name "self" q0) x q1] (.Name x q2) q3] scope [("__class__", cc)] .none .none doc pm an (.ref cda) ct) ⟨us, []⟩ = pure (([("self" : Str), x] : List Str).zip us)) :
    XC1 P w K mg base TL n x :=
  ⟨C, fI, _, ["self", x], hT, F, iC, tI, init_ok1 lk ⟨⟨F.T, ⟨_, c⟩, sub, opq, ini, ve⟩, hcd, ⟨_, _, _, _, _, _, hcode, hvs, hfile⟩, ⟨_, _, _, hcell⟩, mg_none_of KX G hsm, nscope_by S, ⟨ar, hp, har⟩, hnd, hks, htop, hst, fun L => rfl, hev, hsw, hin⟩ hf hdx hdc hsw2,
    fun s us k hl => by
      rw [List.append_nil] at hl ⊢
      exact .of_eq (hb us hl), mg_of KX G a⟩
theorem xc2_mk {n x y qual : Str} {C fI cda cc : Addr} {file : Str} {tf : Tok} {params : Arguments} {scope : Scope} {ar : Arg} {p0 p1 p2 p3 p3' p4 p5 q0 q1 q2 q3 r0 r1 r2 r3 : Pos} {oc ct ccl cl doc pm : Value} {an od cdd cld : Option Addr} {osl ccs csl : Array (Option Value)} {cvs : Array Value} {cdD : ClassData}
    (KX : K.In h) (G : h.Ns mainGlobals mg) (hT : (n, C) ∈ TL) (F : CF K n C) (a : nsIn K mainGlobals n = some (some (.ref C))) (c : clsIn K C = some cdD) (sub : mroIn K C (.ref C) = some true) (opq : nsIn K cStatics "thirdparty.any" = some none) (ini : ks_superIn K C C "__init__" = some (some (.builtin "ValueError.__init__"))) (ve : subIn K (.ref C) (.type "ValueError") = some true)
    (iC : findIn K (.ref C) "__init__" = some (some (.ref fI))) (tI : typeIn K (.ref fI) = some (.type "function"))
    (lk : K.lookup fI = some ⟨oc, od, .func (fnX "__init__" qual params [.Expr (.Call (.Attribute (.Call (.Name "super" p0) [] [] p1) "__init__" p2) [.Name x p3, .Name y p3'] [] p4) p5, .Assign [.Attribute (.Name "self" q0) x q1] (.Name x q2) q3, .Assign [.Attribute (.Name "self" r0) y r1] (.Name y r2) r3] scope [("__class__", cc)] .none .none doc pm an (.ref cda) ct), osl⟩)
    (hcd : codeIn K (.ref cda) qual = true) (hcode : K.lookup cda = some ⟨ccl, cdd, .fields cvs, ccs⟩) (hvs : cvs[2]? = some (.str file tf)) (hfile : ((P.main.file : Str) == file) = true)
    (hcell : K.lookup cc = some ⟨cl, cld, .cell (some (.ref C)), csl⟩) (hsm : nsIn K mainGlobals "super" = some none)
    (S : nscB ["self", x, y, "__class__"] ["self", x, y] ["__class__"] scope = true) (hp : (params.posonlyargs ++ params.args).head? = some ar) (har : ([("self" : Str), x, y] : List Str).head? = some ar.arg) (hnd : ([("self" : Str), x, y] : List Str).Nodup)
    (hks : scope.names.lookup ("super" : Str) = some .globalImplicit) (htop : (P.main.scope.names.lookup ("super" : Str)).isSome = false)
    (hst : ∀ L, starEach [.Name x p3, .Name y p3'] (ksEnv qual scope L fI (.ref cda) cc) = (false, eval (.Name x p3) (ksEnv qual scope L fI (.ref cda) cc)) :: starEach [.Name y p3'] (ksEnv qual scope L fI (.ref cda) cc))
    (hev : ∀ L, ∃ pl, eval (.Call (.Attribute (.Call (.Name "super" p0) [] [] p1) "__init__" p2) [.Name x p3, .Name y p3'] [] p4) (ksEnv qual scope L fI (.ref cda) cc) = (do
      let ov ← attributeBase (.Call (.Name "super" p0) [] [] p1) "__init__" (ksEnv qual scope L fI (.ref cda) cc) (eval (.Call (.Name "super" p0) [] [] p1) (ksEnv qual scope L fI (.ref cda) cc))
      standAt p2.atName
      let (f, first) ← holding [ov] (getMethod ov "__init__" pl)
      callWith p4 f first (backTo p4 (starEach [.Name x p3, .Name y p3'] (ksEnv qual scope L fI (.ref cda) cc))) []))
    (hsw : ∀ L, swapsWith (.Call (.Attribute (.Call (.Name "super" p0) [] [] p1) "__init__" p2) [.Name x p3, .Name y p3'] [] p4) none p5.line (ksEnv qual scope L fI (.ref cda) cc) = pure false)
    (hin : ∀ L, interactive (ksEnv qual scope L fI (.ref cda) cc) = false)
    (hsw2 : ∀ env : Env, swapsWith (.Name x q2) (some (.Attribute (.Name "self" q0) x q1)) q3.line env = pure false) (hsw3 : ∀ env : Env, swapsWith (.Name y r2) (some (.Attribute (.Name "self" r0) y r1)) r3.line env = pure false)
    (hf : findIn K (.ref C) x = some none) (hg : findIn K (.ref C) y = some none) (hdx : (x == ("__debug__" : Str)) = false) (hdc : (x == ("__classdict__" : Str)) = false) (hdx' : (y == ("__debug__" : Str)) = false) (hdc' : (y == ("__classdict__" : Str)) = false)
    (hb : ∀ us : List Value, us.length = 3 → bindArgs (fnX "__init__" qual params [.Expr (.Call (.Attribute (.Call (.Name "super" p0) [] [] p1) "__init__" p2) [.Name x p3, .Name y p3'] [] p4) p5, .Assign [.Attribute (.Name "self" q0) x q1] (.Name x q2) q3, .Assign [.Attribute (.Name "self" r0) y r1] (.Name y r2) r3] scope [("__class__", cc)] .none .none doc pm an (.ref cda) ct) ⟨us, []⟩ = pure (([("self" : Str), x, y] : List Str).zip us)) :
    XC2 P w K mg base TL n x y :=
  ⟨C, fI, _, ["self", x, y], hT, F, iC, tI, init_ok2 lk ⟨⟨F.T, ⟨_, c⟩, sub, opq, ini, ve⟩, hcd, ⟨_, _, _, _, _, _, hcode, hvs, hfile⟩, ⟨_, _, _, hcell⟩, mg_none_of KX G hsm, nscope_by S, ⟨ar, hp, har⟩, hnd, hks, htop, hst, fun L => rfl, hev, hsw, hin⟩ hf hg hdx hdc hdx' hdc' hsw2 hsw3,
    fun s us k hl => by
      rw [List.append_nil] at hl ⊢
      exact .of_eq (hb us hl), mg_of KX G a⟩
theorem xc0_mk {n : Str} {C : Addr} (KX : K.In h) (G : h.Ns mainGlobals mg) (hT : (n, C) ∈ TL) (F : CF K n C) (a : nsIn K mainGlobals n = some (some (.ref C))) (q : excIn K C [.type "ValueError", .type "Exception", .type "BaseException", .type "object"] "ValueError.__new__" = true) : XC0 K mg TL n :=
  ⟨C, _, hT, F, PySem.F.excBase_ValueError, q, mg_of KX G a⟩
end
/-! ### short forms -/
def AllT (p : Str → Addr → Prop) : XNames → Prop
  | [] => True
  | q :: r => p q.1 q.2 ∧ AllT p r
theorem allT_of {p : Str → Addr → Prop} : ∀ {TL : XNames}, AllT p TL → ∀ n C, (n, C) ∈ TL → p n C
  | q :: r, ⟨h1, h2⟩, n, C, m => by
    rcases List.mem_cons.mp m with rfl | m
    · exact h1
    · exact allT_of h2 n C m
section
variable {X : Cx} {TL : XNames} {x : Str} {e : Expr} {pos p : Pos}
theorem jxset (i : Nat) {w : DEX} {pos' : Pos} (nd : X.N.Nodup) (he : JEX X TL e w) (hi : X.N[i]? = some x := by rfl) (hx : Loc X.env.scope x := by first | exact .inl rfl | exact .inr rfl) (hs : swapsWith e (some (.Name x pos')) pos.line X.env = pure false := by rfl) (hf : X.fn x = true ∨ X.env.scope.names.lookup x = some .local := by first | exact .inl rfl | exact .inr rfl) :
    JSX X TL (.Assign [.Name x pos'] e pos) (wSetX i w) := jsx_set nd hi hx he hs hf
variable {a : Addr} {oe : Obj} {cls : Value} {d : Option Addr} {pn : List (Addr × Obj)}
theorem jxf (i : Nat) {f : Str} (tl : TLok X.K TL) (fc : FC X.K TL f) (hz : Zc cls d oe) (hv : ∃ vs, oe.data = .fields vs) (hC : ∃ n C, (n, C) ∈ TL ∧ cls = .ref C) (hN : X.N[i]? = some x := by rfl) (hvis : Vis X.env.scope x := by first | exact .inl rfl | exact .inr (.inl rfl) | exact .inr (.inr rfl))
    (hd : (x == ("__debug__" : Str)) = false := by decide) (hcd : (x == ("__classdict__" : Str)) = false := by decide) (hb : attributeBase (.Name x p) f X.env (eval (.Name x p) X.env) = eval (.Name x p) X.env := by rfl) :
    JE (X.suite a ((a, oe) :: pn)) (.Attribute (.Name x p) f pos) (wXf a cls d i f) := je_xfx tl fc hz hv hC hN hvis hd hcd hb
end
end DL
set_option Elab.async false
set_option linter.all false
set_option maxRecDepth 100000
set_option maxHeartbeats 4000000
namespace TW
open PySem PySem.Spec PyProof.Rows L2 DL
def badD (a : PyData) : PyData := excD "BadText" [("place", a)]
def posD (n : Nat) : PyData := .int (n : Int)
def sp_number_atX : DSp := fun cs R => ∃ (L : List Nat) (a : Nat), cs = [.d (tS L), .d (.int (a : Int))] ∧ a ≤ L.length ∧ L.length ≤ 100000 ∧ R (match numOf (L.drop a) with | none => badD (posD a) | some (n, r) => .tuple [.int (n : Int), posD (L.length - r.length)]) cs
def sp_sides_atX : DSp := fun cs R => ∃ (L : List Nat) (a k : Nat), cs = [.d (tS L), .d (.int (a : Int)), .d (.int (k + 1 : Nat))] ∧ a ≤ L.length ∧ L.length ≤ 100000 ∧ k ≤ 7 ∧ R (match sidesOf k (L.drop a) with | (none, r) => badD (posD (L.length - r.length)) | (some ns, r) => .tuple [tI ns, posD (L.length - r.length)]) cs
def sp_require_textX : DSp := fun cs R => ∃ v : PyData, cs = [.d v] ∧ R (if isTy "str" v = true then .none else badD .none) cs
def okS (v : PyData) : Prop := ∀ z, v = .str z → z.length ≤ 100000
def parseD (v : PyData) : PyData := match v with
  | .str z => match readS z.cps.toList with | some ns => tI ns | none => badD (posD (badS z.cps.toList))
  | _ => badD .none
def sp_parse_sidesX : DSp := fun cs R => ∃ v : PyData, cs = [.d v] ∧ okS v ∧ R (parseD v) cs
def sp_Lis_number : DSp := fun cs R => ∃ (w : List Nat) (b : Bool), cs = [.d (tS w), .d (.bool b)] ∧ w.length ≤ 4000 ∧ (∀ c ∈ w, c < 1000) ∧ R (.bool (numB w b)) cs
def w_Lis_number_t1 : DTS := (wRet (wOp pLe (wFn pInt (wCons (wVar 0) wNil)) (wOp pPow (wC (.int 10)) (wC (.int 12)))))
def w_Lis_number_t2 : DTS := (wSeq (wIf (wOr (wB (wOp pNe (wOfL (wComp (iStrD (wVar 0)) (gN 2) (wB (wOp pNotIn (wVar 2) (wC (.str "0123456789")))) (wVar 2) [2])) (wOfL (wLst wNil)))) (wOr (wB (wOp pEq (wOp pIx (wVar 0) (wC (.int 0))) (wC (.str "0")))) (wB (wOp pGt (wFn pLen (wCons (wVar 0) wNil)) (wC (.int 13)))))) (wRet (wC (.bool false))) wNext) w_Lis_number_t1)
def w_Lis_number : DTS := (wSeq (wIf (wB (wOp pEq (wVar 0) (wC (.str "")))) (wRet (wNotV (wVar 1))) wNext) w_Lis_number_t2)
def w_number_atX_1 : DTS := (wPar2 2 1 (msCons (mE (wOp pAddB (wOp pMulT (wVar 2) (wC (.int 10))) (wFn pInt (wCons (wOp pIx (wVar 0) (wVar 1)) wNil)))) (msCons (mE (wOp pAddB (wVar 1) (wC (.int 1)))) msNil)))
def w_number_atX_t1 : DTS := (wRet (wTup (wCons (wVar 2) (wCons (wVar 1) wNil))))
def w_number_atX_s1 : DTS := (wSeq (wWhile (wAnd (wB (wOp pLt (wVar 1) (wFn pLen (wCons (wVar 0) wNil)))) (wAnd (wB (wOp pIn (wOp pIx (wVar 0) (wVar 1)) (wC (.str "0123456789")))) (wB (wOp pLe (wOp pAddB (wOp pMulT (wVar 2) (wC (.int 10))) (wFn pInt (wCons (wOp pIx (wVar 0) (wVar 1)) wNil))) (wC (.int 1000000000000)))))) w_number_atX_1) w_number_atX_t1)
@[simp ↓] theorem w_number_atX_s1_ap (E : DEnds) (δ : DS) : w_number_atX_s1 E δ = (wSeq (wWhile (wAnd (wB (wOp pLt (wVar 1) (wFn pLen (wCons (wVar 0) wNil)))) (wAnd (wB (wOp pIn (wOp pIx (wVar 0) (wVar 1)) (wC (.str "0123456789")))) (wB (wOp pLe (wOp pAddB (wOp pMulT (wVar 2) (wC (.int 10))) (wFn pInt (wCons (wOp pIx (wVar 0) (wVar 1)) wNil))) (wC (.int 1000000000000)))))) w_number_atX_1) w_number_atX_t1) E δ := rfl
def w_number_atX_3 : DTS := (wRaise (wMk1 "BadText" "place" (wCons (wVar 1) wNil)))
def w_number_atX_t2 : DTS := (wSeq (wSet 2 (mE (wC (.int 0)))) w_number_atX_s1)
def w_number_atX : DTS := (wSeq (wIf (wOr (wB (wOp pEq (wVar 1) (wFn pLen (wCons (wVar 0) wNil)))) (wOr (wB (wOp pEq (wOp pIx (wVar 0) (wVar 1)) (wC (.str "0")))) (wB (wOp pNotIn (wOp pIx (wVar 0) (wVar 1)) (wC (.str "0123456789")))))) w_number_atX_3 wNext) w_number_atX_t2)
def w_sides_atX_1 : DTS := (wSeq (wAsgGX (wCallX [] sp_number_atX (xA (wCons (wVar 0) (wCons (wOp pAddB (wVar 1) (wC (.int 1))) wNil)))) (gT (gsCons (gN 3) (gsCons (gN 1) gsNil)))) (wAppend 4 (wVar 3)))
def w_sides_atX_t1 : DTS := (wRet (wTup (wCons (wFn pTupOf (wCons (wVar 4) wNil)) (wCons (wVar 1) wNil))))
def w_sides_atX_s1 : DTS := (wSeq (wWhile (wAnd (wB (wOp pLt (wVar 1) (wFn pLen (wCons (wVar 0) wNil)))) (wAnd (wB (wOp pEq (wOp pIx (wVar 0) (wVar 1)) (wC (.str "x")))) (wB (wOp pLt (wFn pLen (wCons (wVar 4) wNil)) (wVar 2))))) w_sides_atX_1) w_sides_atX_t1)
@[simp ↓] theorem w_sides_atX_s1_ap (E : DEnds) (δ : DS) : w_sides_atX_s1 E δ = (wSeq (wWhile (wAnd (wB (wOp pLt (wVar 1) (wFn pLen (wCons (wVar 0) wNil)))) (wAnd (wB (wOp pEq (wOp pIx (wVar 0) (wVar 1)) (wC (.str "x")))) (wB (wOp pLt (wFn pLen (wCons (wVar 4) wNil)) (wVar 2))))) w_sides_atX_1) w_sides_atX_t1) E δ := rfl
def w_sides_atX_s2 : DTS := (wSeq (wSet 4 (mL (wLst (wCons (wVar 3) wNil)))) w_sides_atX_s1)
@[simp ↓] theorem w_sides_atX_s2_ap (E : DEnds) (δ : DS) : w_sides_atX_s2 E δ = (wSeq (wSet 4 (mL (wLst (wCons (wVar 3) wNil)))) w_sides_atX_s1) E δ := rfl
def w_sides_atX : DTS := (wSeq (wAsgGX (wCallX [] sp_number_atX (xA (wCons (wVar 0) (wCons (wVar 1) wNil)))) (gT (gsCons (gN 3) (gsCons (gN 1) gsNil)))) w_sides_atX_s2)
def w_require_textX_1 : DTS := (wRaise (wMk1 "BadText" "place" (wCons (wC .none) wNil)))
def w_require_textX : DTS := (wIf (wNot (wB (wIsi "str" (wVar 0)))) w_require_textX_1 wNext)
def w_parse_sidesX_1 : DTS := (wRaise (wMk1 "BadText" "place" (wCons (wVar 2) wNil)))
def w_parse_sidesX_s1 : DTS := (wSeq (wIf (wB (wOp pLt (wVar 2) (wFn pLen (wCons (wVar 0) wNil)))) w_parse_sidesX_1 wNext) (wRet (wVar 1)))
@[simp ↓] theorem w_parse_sidesX_s1_ap (E : DEnds) (δ : DS) : w_parse_sidesX_s1 E δ = (wSeq (wIf (wB (wOp pLt (wVar 2) (wFn pLen (wCons (wVar 0) wNil)))) w_parse_sidesX_1 wNext) (wRet (wVar 1))) E δ := rfl
def w_parse_sidesX_s2 : DTS := (wSeq (wAsgGX (wCallX [] sp_sides_atX (xA (wCons (wVar 0) (wCons (wC (.int 0)) (wCons (wC (.int 4)) wNil))))) (gT (gsCons (gN 1) (gsCons (gN 2) gsNil)))) w_parse_sidesX_s1)
@[simp ↓] theorem w_parse_sidesX_s2_ap (E : DEnds) (δ : DS) : w_parse_sidesX_s2 E δ = (wSeq (wAsgGX (wCallX [] sp_sides_atX (xA (wCons (wVar 0) (wCons (wC (.int 0)) (wCons (wC (.int 4)) wNil))))) (gT (gsCons (gN 1) (gsCons (gN 2) gsNil)))) w_parse_sidesX_s1) E δ := rfl
def w_parse_sidesX : DTS := (wSeq (wDropX (wCallX [] sp_require_textX (xA (wCons (wVar 0) wNil)))) w_parse_sidesX_s2)
theorem ln_Lis_number : ∀ cs R, sp_Lis_number cs R → cs.length = 2 := by
  intro cs R h
  unfold sp_Lis_number at h
  repeat (obtain ⟨_, h⟩ := h)
  subst_vars; rfl
theorem ln_number_atX : ∀ cs R, sp_number_atX cs R → cs.length = 2 := by
  intro cs R h
  unfold sp_number_atX at h
  repeat (obtain ⟨_, h⟩ := h)
  subst_vars; rfl
theorem ln_sides_atX : ∀ cs R, sp_sides_atX cs R → cs.length = 3 := by
  intro cs R h
  unfold sp_sides_atX at h
  repeat (obtain ⟨_, h⟩ := h)
  subst_vars; rfl
theorem ln_require_textX : ∀ cs R, sp_require_textX cs R → cs.length = 1 := by
  intro cs R h
  unfold sp_require_textX at h
  repeat (obtain ⟨_, h⟩ := h)
  subst_vars; rfl
theorem ln_parse_sidesX : ∀ cs R, sp_parse_sidesX cs R → cs.length = 1 := by
  intro cs R h
  unfold sp_parse_sidesX at h
  repeat (obtain ⟨_, h⟩ := h)
  subst_vars; rfl
end TW
set_option Elab.async false
set_option linter.all false
set_option maxRecDepth 100000
set_option maxHeartbeats 4000000
namespace TW
open PySem PySem.Spec PyProof.Rows L2 DL
open PySem.NumText
theorem rd_require_textX : ∀ cs R, sp_require_textX cs R → w_require_textX (endsOf cs R) (start0 1 cs) := by
  rintro _ R ⟨v, rfl, hR⟩
  simp -implicitDefEqProofs -dsimp [w_require_textX]
  by_cases h : isTy "str" v = true
  · rw [if_pos h] at hR ⊢
    exact hR
  · rw [if_neg h] at hR ⊢
    simp -implicitDefEqProofs -dsimp [w_require_textX_1]
    exact hR
theorem numOf_cons (c : Nat) (r : List Nat) : numOf (c :: r) = if 49 ≤ c ∧ c ≤ 57 then some (scan (c - 48) r) else none := rfl
theorem drop_at {L : List Nat} {a c : Nat} (h : L[a]? = some c) : L.drop a = c :: L.drop (a + 1) := by
  obtain ⟨lt, e⟩ := List.getElem?_eq_some_iff.mp h
  rw [List.drop_eq_getElem_cons lt, e]
theorem scan_first {c : Nat} {r : List Nat} (h : 49 ≤ c ∧ c ≤ 57) : scan 0 (c :: r) = scan (c - 48) r := by
  rw [scan, if_pos ⟨by omega, by omega⟩, Nat.zero_mul, Nat.zero_add]
theorem rd_number_atX : ∀ cs R, sp_number_atX cs R → w_number_atX (endsOf cs R) (start0 3 cs) := by
  rintro _ R ⟨L, a, rfl, ha, hl, hR⟩
  have p10 : (10 : Nat) ^ 12 = 1000000000000 := by decide
  rcases Nat.lt_or_eq_of_le ha with lt | rfl
  · obtain ⟨c, ac⟩ : ∃ c, L[a]? = some c := ⟨_, List.getElem?_eq_getElem lt⟩
    rw [drop_at ac, numOf_cons] at hR
    simp -implicitDefEqProofs -dsimp [w_number_atX, tS, len_S, ac, zero_S, fig_mem]
    refine ⟨by omega, ?_⟩
    rw [if_neg (by omega)]
    refine ⟨by omega, ?_⟩
    by_cases h1 : 49 ≤ c ∧ c ≤ 57
    · rw [if_pos h1, ← scan_first (r := L.drop (a + 1)) h1, ← drop_at ac] at hR
      generalize hz : scan 0 (L.drop a) = z at hR
      rw [if_neg (by omega)]
      refine ⟨by omega, ?_⟩
      rw [if_pos ((fig_memA c).mpr (by omega))]
      simp -implicitDefEqProofs -dsimp [w_number_atX_t2, w_number_atX_s1]
      refine while_plain (fun m δ => ∃ p v : Nat, m = L.length - p ∧ p ≤ L.length ∧ v ≤ 10 ^ 12 ∧ scan v (L.drop p) = z ∧ δ = [.d (.str ⟨L.toArray⟩), .d (.int (p : Int)), .d (.int (v : Int))])
        (fun δ => δ = [.d (.str ⟨L.toArray⟩), .d (posD (L.length - z.2.length)), .d (.int (z.1 : Int))]) (L.length - a) ⟨a, 0, rfl, ha, by omega, hz, rfl⟩ ?_ ?_
      · rintro δ rfl
        simp -implicitDefEqProofs -dsimp [w_number_atX_t1]
        exact hR
      · rintro m δ ⟨p, v, rfl, hp, hv, hs, rfl⟩ K Nn T hK hN
        rcases Nat.lt_or_eq_of_le hp with pl | rfl
        · obtain ⟨d, ad⟩ : ∃ d, L[p]? = some d := ⟨_, List.getElem?_eq_getElem pl⟩
          have hd := drop_at ad
          rw [hd, scan] at hs
          have out : ¬ ((48 ≤ d ∧ d ≤ 57) ∧ v * 10 + (d - 48) ≤ 10 ^ 12) → Nn [.d (.str ⟨L.toArray⟩), .d (.int (p : Int)), .d (.int (v : Int))] := fun no => by
            rw [if_neg no] at hs
            subst hs
            have e : L.length - (d :: L.drop (p + 1)).length = p := by simp; omega
            refine hN _ ?_
            show ([.d (.str ⟨L.toArray⟩), .d (.int (p : Int)), .d (.int (v : Int))] : DS) = [_, .d (posD (L.length - (d :: L.drop (p + 1)).length)), _]
            rw [e]
            rfl
          simp -implicitDefEqProofs -dsimp [len_S, ad, fig_mem, w_number_atX_1]
          refine ⟨by omega, ?_⟩
          rw [if_pos pl]
          refine ⟨by omega, ?_⟩
          by_cases hc : 48 ≤ d ∧ d ≤ 57
          · have cm : CMul (v : Int) 10 ∨ CMulW (v : Int) 10 := mul_big (by unfold BIG; omega) (by unfold BIG; omega) (by unfold BIG; omega) (by unfold BIG; omega)
            rw [if_pos ((fig_memA d).mpr hc)]
            simp -implicitDefEqProofs -dsimp [one_digit hc]
            refine ⟨cm, by omega, ?_⟩
            by_cases hv' : v * 10 + (d - 48) ≤ 10 ^ 12
            · rw [if_pos ⟨hc, hv'⟩] at hs
              rw [if_pos (by omega)]
              refine ⟨cm, by omega, hK (L.length - (p + 1)) _ (by omega) ⟨p + 1, v * 10 + (d - 48), rfl, pl, hv', hs, by push_cast; rfl⟩⟩
            · rw [if_neg (by omega)]
              exact out fun z => hv' z.2
          · rw [if_neg fun z => hc ((fig_memA d).mp z)]
            exact out fun z => hc z.1
        · have hs' : z = (v, []) := by rw [← hs, List.drop_length]; rfl
          subst hs'
          simp -implicitDefEqProofs -dsimp [len_S]
          exact ⟨by omega, hN _ rfl⟩
    · rw [if_neg h1] at hR
      have fin : w_number_atX_3
          { nx := w_number_atX_t2 (endsOf [Cell.d (PyData.str { cps := L.toArray }), Cell.d (PyData.int ↑a)] R),
            rt := (endsOf [Cell.d (PyData.str { cps := L.toArray }), Cell.d (PyData.int ↑a)] R).rt,
            bk := (endsOf [Cell.d (PyData.str { cps := L.toArray }), Cell.d (PyData.int ↑a)] R).bk,
            ct := (endsOf [Cell.d (PyData.str { cps := L.toArray }), Cell.d (PyData.int ↑a)] R).ct }
          [Cell.d (PyData.str { cps := L.toArray }), Cell.d (PyData.int ↑a), Cell.em] := by
        simp -implicitDefEqProofs -dsimp [w_number_atX_3]
        exact hR
      by_cases h2 : c = 48
      · rw [if_pos h2]
        exact fin
      · rw [if_neg h2]
        refine ⟨by omega, ?_⟩
        rw [if_neg fun z => by have := (fig_memA c).mp z; omega]
        exact fin
  · rw [List.drop_length] at hR
    simp -implicitDefEqProofs -dsimp [w_number_atX, tS, len_S, w_number_atX_3]
    refine ⟨by omega, ?_⟩
    exact hR
/-- what is read behind a number, so many more words allowed -/
def contS (j : Nat) (r : List Nat) : Option (List Int) × List Nat := if 0 < j ∧ r.head? = some 120 then sidesOf (j - 1) r.tail else (some [], r)
theorem sidesOf_cont (k : Nat) (l : List Nat) : sidesOf k l = match numOf l with | none => (none, l) | some (n, r) => ((contS k r).1.map ((n : Int) :: ·), (contS k r).2) := by
  cases k with
  | zero => unfold sidesOf contS; cases numOf l <;> simp
  | succ k =>
    unfold sidesOf contS
    cases numOf l with
    | none => rfl
    | some x =>
      obtain ⟨n, r⟩ := x
      by_cases h : r.head? = some 120
      · simp [h]
      · simp [h]
theorem suff_len {l r : List Nat} {n : Nat} (h : numOf l = some (n, r)) : r.length < l.length := by
  obtain ⟨w, rfl, g, _⟩ := numOf_some h
  have := List.length_pos_iff.mpr (goodB_ne g)
  simp; omega
theorem suff_drop {L r : List Nat} {a n : Nat} (ha : a ≤ L.length) (h : numOf (L.drop a) = some (n, r)) : r = L.drop (L.length - r.length) ∧ L.length - r.length ≤ L.length ∧ a < L.length - r.length := by
  obtain ⟨w, e, g, _⟩ := numOf_some h
  have l := suff_len h
  rw [List.length_drop] at l
  have e2 := congrArg (List.drop w.length) e
  rw [List.drop_append_of_le_length (Nat.le_refl _), List.drop_length, List.nil_append, List.drop_drop] at e2
  have e3 := congrArg List.length e
  rw [List.length_drop, List.length_append] at e3
  have : a + w.length = L.length - r.length := by omega
  rw [this] at e2
  exact ⟨e2.symm, by omega, by omega⟩
theorem rd_sides_atX : ∀ cs R, sp_sides_atX cs R → w_sides_atX (endsOf cs R) (start0 5 cs) := by
  rintro _ R ⟨L, a, k, rfl, ha, hl, k7, hR⟩
  simp -implicitDefEqProofs -dsimp [w_sides_atX]
  refine ask_of (sp := sp_number_atX) ⟨L, a, rfl, ha, hl, ?_⟩
  rw [sidesOf_cont] at hR
  cases h : numOf (L.drop a) with
  | none =>
    rw [h] at hR
    have e : L.length - (L.drop a).length = a := by simp; omega
    simp only [e] at hR
    simp -implicitDefEqProofs -dsimp [badD]
    exact hR
  | some x =>
    obtain ⟨n, r⟩ := x
    obtain ⟨e, q1, q2⟩ := suff_drop ha h
    rw [h] at hR
    simp only at hR
    simp -implicitDefEqProofs -dsimp [w_sides_atX_s2, posD]
    intro fa
    generalize L.length - r.length = p0 at *
    subst e
    generalize hF : (((contS k (L.drop p0)).1.map ((n : Int) :: ·), (contS k (L.drop p0)).2) : Option (List Int) × List Nat) = F at hR
    refine while_inv (fun m δ => ∃ (ds : List Int) (j p : Nat) (c3 : Int), j = m ∧ p ≤ L.length ∧ 0 < ds.length ∧ ds.length + j = k + 1 ∧ ((contS j (L.drop p)).1.map (ds ++ ·), (contS j (L.drop p)).2) = F ∧ δ = [.d (tS L), .d (.int (p : Int)), .d (.int (k + 1 : Nat)), .d (.int c3), .ol fa (lI ds)])
      (fun δ => ∃ c3, ∃ ds, F.1 = some ds ∧ δ = [.d (tS L), .d (posD (L.length - F.2.length)), .d (.int (k + 1 : Nat)), c3, .ol fa (lI ds)])
      (fun x δ => ∃ c1 c3 c4, F.1 = none ∧ x = badD (posD (L.length - F.2.length)) ∧ δ = [.d (tS L), c1, .d (.int (k + 1 : Nat)), c3, c4]) k ⟨[(n : Int)], k, p0, n, rfl, q1, by simp, by simp; omega, hF, by simp [lI]⟩ ?_ ?_ ?_
    · rintro δ ⟨c3, ds, e, rfl⟩
      obtain ⟨o, q⟩ := F
      simp only at e
      subst e
      simp -implicitDefEqProofs -dsimp [w_sides_atX_t1]
      exact hR
    · rintro x δ ⟨c1, c3, c4, e, rfl, rfl⟩
      obtain ⟨o, q⟩ := F
      simp only at e
      subst e
      (try simp -implicitDefEqProofs -dsimp)
      exact hR
    · rintro m δ ⟨ds, j, p, c3, rfl, hp, d0, dj, hF', rfl⟩ K Nn T hK hN hT
      have out : ¬ (0 < j ∧ (L.drop p).head? = some 120) → Nn [.d (tS L), .d (.int (p : Int)), .d (.int (k + 1 : Nat)), .d (.int c3), .ol fa (lI ds)] := fun no => by
        refine hN _ ⟨.d (.int c3), ds, ?_⟩
        unfold contS at hF'
        rw [if_neg no] at hF'
        subst hF'
        have e : L.length - (L.drop p).length = p := by simp; omega
        simp only [e]
        exact ⟨by simp, rfl⟩
      rcases Nat.lt_or_eq_of_le hp with pl | rfl
      · obtain ⟨c, ac⟩ : ∃ c, L[p]? = some c := ⟨_, List.getElem?_eq_getElem pl⟩
        have hd := drop_at ac
        simp -implicitDefEqProofs -dsimp [tS, len_S, ac, x_S]
        refine ⟨by omega, ?_⟩
        rw [if_pos pl]
        refine ⟨by omega, ?_⟩
        by_cases hc : c = 120
        · subst hc
          rw [if_pos rfl]
          by_cases hj : 0 < j
          · rw [if_pos (by omega)]
            unfold contS at hF'
            rw [if_pos ⟨hj, by rw [hd]; rfl⟩, hd, List.tail_cons, sidesOf_cont] at hF'
            simp -implicitDefEqProofs -dsimp [w_sides_atX_1]
            refine ask_of (sp := sp_number_atX) ⟨L, p + 1, rfl, pl, hl, ?_⟩
            cases h' : numOf (L.drop (p + 1)) with
            | none =>
              rw [h'] at hF'
              subst hF'
              have e : L.length - (L.drop (p + 1)).length = p + 1 := by simp; omega
              simp -implicitDefEqProofs -dsimp [badD]
              refine hT _ _ ⟨_, _, _, rfl, ?_, rfl⟩
              simp only [e]
              rfl
            | some x =>
              obtain ⟨n', r'⟩ := x
              obtain ⟨e', q1', q2'⟩ := suff_drop pl h'
              rw [h'] at hF'
              simp only at hF'
              simp -implicitDefEqProofs -dsimp [posD]
              generalize L.length - r'.length = p1 at *
              subst e'
              refine ⟨⟨fa, _, rfl⟩, by omega, ?_⟩
              refine hK (j - 1) _ (by omega) ⟨ds ++ [(n' : Int)], j - 1, p1, n', rfl, q1', by simp, by simp; omega, ?_, by simp [lI, tS]⟩
              rw [← hF']
              generalize contS (j - 1) (L.drop p1) = Z
              obtain ⟨o, q⟩ := Z
              cases o <;> simp
          · rw [if_neg (by omega)]
            exact out fun z => hj z.1
        · rw [if_neg hc]
          refine out fun z => hc ?_
          rw [hd] at z
          simpa using z.2
      · simp -implicitDefEqProofs -dsimp [tS, len_S]
        refine ⟨by omega, ?_⟩
        exact out fun z => by simp at z
theorem rd_parse_sidesX : ∀ cs R, sp_parse_sidesX cs R → w_parse_sidesX (endsOf cs R) (start0 3 cs) := by
  rintro _ R ⟨v, rfl, hv, hR⟩
  simp -implicitDefEqProofs -dsimp [w_parse_sidesX]
  refine ask_of (sp := sp_require_textX) ⟨v, rfl, ?_⟩
  by_cases h : isTy "str" v = true
  · rw [if_pos h]
    obtain ⟨z, rfl⟩ : ∃ z, v = .str z := by cases v <;> first | exact ⟨_, rfl⟩ | exact absurd h (by simp [isTy, tyName])
    obtain ⟨⟨L⟩⟩ := z
    have hl : L.length ≤ 100000 := by have := hv _ rfl; rwa [len_S] at this
    simp -implicitDefEqProofs -dsimp [w_parse_sidesX_s2]
    refine ask_of (sp := sp_sides_atX) ⟨L, 0, 3, rfl, Nat.zero_le _, hl, by omega, ?_⟩
    rw [List.drop_zero]
    have hR' : R (match readS L with | some ns => tI ns | none => badD (posD (badS L))) [.d (tS L)] := hR
    unfold readS badS at hR'
    have hs : (sidesOf 3 L).2.length ≤ L.length := by
      obtain ⟨p, RS⟩ := sides_read 3 L
      have := congrArg List.length RS.eq
      rw [List.length_append] at this
      omega
    rcases hx : sidesOf 3 L with ⟨o, r⟩
    rw [hx] at hR' hs
    simp only at hR' hs
    cases o with
    | none =>
      simp -implicitDefEqProofs -dsimp [badD]
      have e : (if r = [] then (none : Option (List Int)) else none) = none := by split <;> rfl
      rw [e] at hR'
      exact hR'
    | some ns =>
      simp -implicitDefEqProofs -dsimp [w_parse_sidesX_s1, posD, tS, len_S]
      refine ⟨by omega, ?_⟩
      cases r with
      | nil =>
        rw [if_neg (by simp)]
        exact hR'
      | cons c q =>
        rw [if_pos (by simp at hs ⊢; omega)]
        simp -implicitDefEqProofs -dsimp [w_parse_sidesX_1]
        exact hR'
  · rw [if_neg h]
    simp -implicitDefEqProofs -dsimp [badD]
    have e : parseD v = badD .none := by cases v <;> first | rfl | exact absurd (by simp [isTy, tyName]) h
    rw [e] at hR
    exact hR
theorem emp_S : Str.ofString "" = (⟨#[]⟩ : Str) := by decide +kernel
theorem foldl_pow : ∀ (cs : List Nat) (a : Nat), a * 10 ^ cs.length ≤ cs.foldl (fun acc c => acc * 10 + (c - 48)) a
  | [], a => by simp
  | c :: cs, a => by
    have h := foldl_pow cs (a * 10 + (c - 48))
    have h2 : a * 10 * 10 ^ cs.length ≤ (a * 10 + (c - 48)) * 10 ^ cs.length := Nat.mul_le_mul_right _ (by omega)
    rw [List.length_cons, Nat.pow_succ, Nat.mul_comm (10 ^ cs.length), ← Nat.mul_assoc]
    exact Nat.le_trans h2 h
theorem val_len {c : Nat} {r : List Nat} (h : 49 ≤ c) : 10 ^ r.length ≤ digitsVal (c :: r) := by
  have := foldl_pow r (0 * 10 + (c - 48))
  have h2 : 1 * 10 ^ r.length ≤ (0 * 10 + (c - 48)) * 10 ^ r.length := Nat.mul_le_mul_right _ (by omega)
  rw [Nat.one_mul] at h2
  exact Nat.le_trans h2 this
theorem fm_filter {α β : Type} (p : α → Prop) [DecidablePred p] (g : α → β) : ∀ l : List α, l.filterMap (fun a => if p a then none else some (g a)) = (l.filter fun a => !decide (p a)).map g
  | [] => rfl
  | a :: r => by
    by_cases h : p a
    · simp [h, fm_filter p g r]
    · simp [h, fm_filter p g r]
theorem eqv_nil (ys : List PyData) : (PyData.eqvAll ys [] = true) = (ys = []) := by cases ys <;> simp [PyData.eqvAll]
theorem rd_Lis_number : ∀ cs R, sp_Lis_number cs R → w_Lis_number (endsOf cs R) (start0 3 cs) := by
  rintro _ R ⟨w, b, rfl, hw, hch, hR⟩
  cases w with
  | nil =>
    simp -implicitDefEqProofs -dsimp [w_Lis_number, tS, emp_S]
    have e : numB [] b = !b := by cases b <;> rfl
    rw [e] at hR
    exact hR
  | cons c r =>
    have lc : (c :: r).length = r.length + 1 := rfl
    have enb : numB (c :: r) b = goodB (c :: r) := by simp [numB]
    rw [enb] at hR
    simp -implicitDefEqProofs -dsimp [w_Lis_number, tS, emp_S, w_Lis_number_t2]
    refine ⟨by rw [len_S]; omega, com_map (c :: r) (fun d => .str ⟨#[d]⟩) (by simp [DL.signs]) (fun d => if 48 ≤ d ∧ d ≤ 57 then none else some (.str ⟨#[d]⟩)) (fun d hd acc K hK => ?_) ?_⟩
    · simp -implicitDefEqProofs -dsimp [fig_mem]
      by_cases h : 48 ≤ d ∧ d ≤ 57
      · rw [if_pos h] at hK
        rw [if_pos ((fig_memA d).mpr h)]
        simpa using hK
      · rw [if_neg h] at hK
        rw [if_neg fun z => h ((fig_memA d).mp z)]
        exact hK
    · rw [fm_filter]
      generalize hW : (c :: r).filter (fun d => !decide (48 ≤ d ∧ d ≤ 57)) = W
      have sh : SeqAt.shaped (.list (W.map fun d => PyData.str ⟨#[d]⟩)) = true := by
        have lW : W.length ≤ 4000 := by rw [← hW]; exact Nat.le_trans (List.length_filter_le _ _) hw
        have one : ∀ d ∈ W, Shp false 0 12 (.str ⟨#[d]⟩) := fun d hd => by
          refine Shp.text (k := 1) ?_ (by simp [Str.length])
          have hdw : d ∈ c :: r := by rw [← hW] at hd; exact (List.mem_filter.mp hd).1
          have := hch d hdw
          show (#[d] : Array Nat).all (· < 0x110000) = true
          simp
          omega
        exact (Shp.list (ShpL.map (k := 4000) one lW)).shaped
      have wn : W = [] ↔ AllDigits (c :: r) := by
        rw [← hW, List.filter_eq_nil_iff]
        simp only [AllDigits, Bool.not_eq_true', decide_eq_false_iff_not]
        exact ⟨fun h a m => by have := h a m; simpa using this, fun h a m => by simpa using h a m⟩
      simp -implicitDefEqProofs -dsimp [len_S, zero_S]
      refine ⟨sh, rfl, ?_⟩
      simp only [eqv_nil, List.map_eq_nil_iff]
      have bad : ¬ (AllDigits (c :: r) ∧ c ≠ 48 ∧ (c :: r).length ≤ 13) → R (.bool false) [.d (tS (c :: r)), .d (.bool b)] := fun no => by
        have : goodB (c :: r) = false := by
          cases h : goodB (c :: r) with
          | false => rfl
          | true =>
            obtain ⟨h1, h2, h3⟩ := goodB_iff.mp h
            have c0 := h1 c (by simp)
            refine absurd ⟨h1, h2, ?_⟩ no
            have := val_len (c := c) (r := r) (by simp at h2; omega)
            rcases Nat.lt_or_ge r.length 13 with l | l
            · simp; omega
            · have : 10 ^ 13 ≤ 10 ^ r.length := Nat.pow_le_pow_right (by decide) l
              omega
        rw [this] at hR
        exact hR
      by_cases h1 : W = []
      · rw [if_pos h1]
        refine ⟨by omega, ?_⟩
        by_cases h2 : c = 48
        · rw [if_pos (by rw [h2])]
          exact bad fun z => z.2.1 h2
        · rw [if_neg (by simpa using h2)]
          refine ⟨by omega, ?_⟩
          by_cases h3 : (c :: r).length ≤ 13
          · rw [if_neg (by omega)]
            have hd := wn.mp h1
            have := intText_digits (x := ⟨(c :: r).toArray⟩) hd (by simp) (by rw [len_S]; omega)
            simp -implicitDefEqProofs -dsimp [w_Lis_number_t1]
            refine ⟨_, this, by rw [len_S]; omega, by simp [CPow], ?_⟩
            have e : goodB (c :: r) = decide (((digitsVal (c :: r) : Nat) : Int) ≤ 1000000000000) := by
              rw [Bool.eq_iff_iff, goodB_iff, decide_eq_true_eq]
              exact ⟨fun z => by have := z.2.2; omega, fun z => ⟨hd, h2, by omega⟩⟩
            rw [e] at hR
            exact hR
          · rw [if_pos (by omega)]
            exact bad fun z => h3 z.2.2
      · rw [if_neg h1]
        exact bad fun z => h1 (wn.mpr z.1)
theorem glue_mem {s c : Nat} : ∀ {ls : List (List Nat)}, c ∈ glue s ls → c = s ∨ ∃ l ∈ ls, c ∈ l
  | [], h => by simp [glue] at h
  | [a], h => .inr ⟨a, by simp, by simpa [glue] using h⟩
  | a :: b :: r, h => by
    rw [glue_cons, List.mem_append, List.mem_cons] at h
    rcases h with h | h | h
    · exact .inr ⟨a, by simp, h⟩
    · exact .inl h
    · exact (glue_mem h).imp id fun ⟨l, m, k⟩ => ⟨l, List.mem_cons_of_mem _ m, k⟩
theorem sx_le {ns : List Int} : ∀ c ∈ sx ns, c ≤ 120 := fun c h => by
  rcases glue_mem h with rfl | ⟨l, m, k⟩
  · omega
  · obtain ⟨n, _, rfl⟩ := List.mem_map.mp m
    have := dg_all _ c k
    omega
end TW
set_option Elab.async false
set_option linter.all false
set_option maxRecDepth 100000
set_option maxHeartbeats 4000000
namespace TW
open PySem PySem.NumText DL
/-! ### which rows of signs are texts of kinds, and beginnings of such -/
/-- a group: sides of so many axes (none: any), or the beginning of such -/
def limA (ax : Option Nat) : Nat := match ax with | none => 4 | some a => min 4 a
def fitA (ax : Option Nat) (n : Nat) (b : Bool) : Bool := match ax with | none => true | some a => !b || decide (n = a)
def groupB (ax : Option Nat) (g : List Nat) (b : Bool) : Bool := textB (limA ax) (spl 120 g) b && fitA ax (spl 120 g).length b
def axesOf (gs : List (List Nat)) : Option Nat := if gs.length > 1 then some (spl 120 (gs.headD [])).length else none
def rowB (j : Nat) (ax : Option Nat) (gs : List (List Nat)) (b : Bool) : Bool := decide (gs.length ≤ j) && gs.dropLast.all (fun g => groupB ax g true) && groupB ax (gs.getLastD []) b
def kindsB (gs : List (List Nat)) (b : Bool) : Bool := rowB 4 (axesOf gs) gs b
def kaut (j : Nat) (ax : Option Nat) (g : List Nat) : List Nat → Bool → Bool
  | [], b => groupB ax g b
  | c :: r, b => if c = 32 then groupB (some (ax.getD (spl 120 g).length)) g true && (decide (0 < j) && kaut (j - 1) (some (ax.getD (spl 120 g).length)) [] r b) else kaut j ax (g ++ [c]) r b
theorem rowB_cons {j : Nat} {ax : Option Nat} {g : List Nat} {gs : List (List Nat)} {b : Bool} (h : gs ≠ []) : rowB (j + 1) ax (g :: gs) b = (groupB ax g true && rowB j ax gs b) := by
  obtain ⟨v, r, rfl⟩ := List.exists_cons_of_ne_nil h
  unfold rowB
  have e1 : (g :: v :: r).dropLast = g :: (v :: r).dropLast := rfl
  have e2 : (g :: v :: r).getLastD [] = (v :: r).getLastD [] := by simp [List.getLastD]
  have e3 : ((g :: v :: r).length ≤ j + 1) = ((v :: r).length ≤ j) := by simp
  rw [e1, e2, List.all_cons]
  simp only [e3]
  cases groupB ax g true <;> simp
theorem rowB_zero {ax : Option Nat} {gs : List (List Nat)} {b : Bool} (h : gs ≠ []) : rowB 0 ax gs b = false := by
  obtain ⟨v, r, rfl⟩ := List.exists_cons_of_ne_nil h
  simp [rowB]
theorem rowB_kaut {b : Bool} {a : Nat} : ∀ (L : List Nat) (j : Nat) (g : List Nat), rowB (j + 1) (some a) (spA 32 g L) b = kaut j (some a) g L b
  | [], j, g => by simp [spA, rowB, kaut]
  | c :: r, j, g => by
    unfold spA kaut
    split
    · rw [rowB_cons (spA_ne 32 r [])]
      cases j with
      | zero => rw [rowB_zero (spA_ne 32 r [])]; simp
      | succ j => rw [rowB_kaut r j]; simp
    · exact rowB_kaut r j _
theorem kindsB_kaut {b : Bool} : ∀ (L g : List Nat), kindsB (spA 32 g L) b = kaut 3 none g L b
  | [], g => by simp [spA, kindsB, axesOf, rowB, kaut]
  | c :: r, g => by
    unfold spA kaut
    split
    · have hn := spA_ne 32 r []
      have : 1 < (g :: spA 32 [] r).length := by have := List.length_pos_iff.mpr hn; simp; omega
      rw [kindsB, axesOf, if_pos this, rowB_cons hn, rowB_kaut r 2]
      rfl
    · exact kindsB_kaut r _
theorem textB_pre {k : Nat} {p q : List Nat} {b : Bool} (h : textB k (spl 120 (p ++ q)) b = true) : textB k (spl 120 p) false = true := by
  cases k with
  | zero => rw [textB_zero (ws := spl 120 (p ++ q)) (spA_ne 120 (p ++ q) [])] at h; cases h
  | succ k =>
    rw [spl_aut] at h ⊢
    exact aut_pre q p h
theorem groupB_beg {ax : Option Nat} {p q : List Nat} {b : Bool} (h : groupB ax (p ++ q) b = true) : groupB ax p false = true := by
  simp only [groupB, Bool.and_eq_true] at h ⊢
  exact ⟨textB_pre h.1, by unfold fitA; cases ax <;> rfl⟩
theorem textB_mono {k m : Nat} {ws : List (List Nat)} {b : Bool} (h : textB k ws b = true) (km : k ≤ m) : textB m ws b = true := by
  simp only [textB, Bool.and_eq_true, decide_eq_true_eq] at h ⊢
  exact ⟨⟨by omega, h.1.2⟩, h.2⟩
theorem kaut_beg {b : Bool} : ∀ (L : List Nat) {j : Nat} {ax : Option Nat} {g : List Nat}, kaut j ax g L b = true → groupB ax g false = true
  | [], j, ax, g, h => groupB_beg (q := []) (b := b) (by rw [List.append_nil]; exact h)
  | c :: r, j, ax, g, h => by
    unfold kaut at h
    split at h
    · simp only [Bool.and_eq_true] at h
      have h1 := groupB_beg (q := []) (b := true) (by rw [List.append_nil]; exact h.1)
      cases ax with
      | some a => exact h1
      | none =>
        simp only [groupB, Bool.and_eq_true] at h1 ⊢
        exact ⟨textB_mono h1.1 (Nat.min_le_left ..), rfl⟩
    · exact groupB_beg (kaut_beg r h)
theorem kaut_pre {b : Bool} (q : List Nat) : ∀ (p : List Nat) {j : Nat} {ax : Option Nat} {g : List Nat}, kaut j ax g (p ++ q) b = true → kaut j ax g p false = true
  | [], j, ax, g, h => kaut_beg q h
  | c :: r, j, ax, g, h => by
    rw [List.cons_append] at h
    unfold kaut at h ⊢
    split at h
    · rename_i e
      rw [if_pos e]
      simp only [Bool.and_eq_true] at h ⊢
      exact ⟨h.1, h.2.1, kaut_pre q r h.2.2⟩
    · rename_i e
      rw [if_neg e]
      exact kaut_pre q r h
theorem kaut_free {b : Bool} {j : Nat} {ax : Option Nat} : ∀ {v : List Nat} (g l : List Nat), 32 ∉ v → kaut j ax g (v ++ l) b = kaut j ax (g ++ v) l b
  | [], g, l, _ => by simp
  | d :: v, g, l, h => by
    rw [List.cons_append, kaut, if_neg (fun e => h (by simp [e])), kaut_free _ _ fun m => h (by simp [m]), List.append_assoc]
    rfl
theorem aut_signs {b : Bool} : ∀ (L : List Nat) {k : Nat} {w : List Nat}, aut k w L b = true → (∀ c ∈ w, 48 ≤ c ∧ c ≤ 57) ∧ ∀ c ∈ L, (48 ≤ c ∧ c ≤ 57) ∨ c = 120
  | [], k, w, h => by
    refine ⟨fun c hc => ?_, fun c hc => by simp at hc⟩
    have h : numB w b = true := h
    simp only [numB, Bool.or_eq_true, Bool.and_eq_true] at h
    rcases h with h | h
    · exact (goodB_iff.mp h).1 c hc
    · rw [List.isEmpty_iff.mp h.1] at hc; simp at hc
  | c :: r, k, w, h => by
    unfold aut at h
    split at h
    · rename_i e
      simp only [Bool.and_eq_true] at h
      obtain ⟨_, h2⟩ := aut_signs r h.2.2
      exact ⟨(goodB_iff.mp h.1).1, fun d hd => (List.mem_cons.mp hd).elim (fun z => .inr (z.trans e)) (h2 d)⟩
    · obtain ⟨h1, h2⟩ := aut_signs r h
      exact ⟨fun d hd => h1 d (by simp [hd]), fun d hd => (List.mem_cons.mp hd).elim (fun z => .inl (by rw [z]; exact h1 c (by simp))) (h2 d)⟩
/-! what the program reads -/
def groupsOf (a : Nat) : Nat → List Nat → Option (List (List Int)) × List Nat
  | 0, l => match sidesOf (a - 1) l with
    | (none, q) => (none, q)
    | (some s, q) => if s.length < a then (none, q) else (some [s], q)
  | j + 1, l => match sidesOf (a - 1) l with
    | (none, q) => (none, q)
    | (some s, q) => if s.length < a then (none, q) else if q.head? = some 32 then ((groupsOf a j q.tail).1.map (s :: ·), (groupsOf a j q.tail).2) else (some [s], q)
def kindsOf (l : List Nat) : Option (List (List Int)) × List Nat := match sidesOf 3 l with
  | (none, q) => (none, q)
  | (some s, q) => if q.head? = some 32 then ((groupsOf s.length 2 q.tail).1.map (s :: ·), (groupsOf s.length 2 q.tail).2) else (some [s], q)
def valG (g : List Nat) : List Int := (spl 120 g).map fun w => (digitsVal w : Int)
structure ReadK (j : Nat) (ax : Option Nat) (l : List Nat) (o : Option (List (List Int))) (r p : List Nat) : Prop where
  eq : l = p ++ r
  beg : kaut j ax [] p false = true
  dead : ∀ c q, r = c :: q → kaut j ax [] (p ++ [c]) false = false
  bad : o = none → kaut j ax [] p true = false
  ok : ∀ kss, o = some kss → kaut j ax [] p true = true ∧ (spl 32 p).map valG = kss ∧ 1 ≤ kss.length ∧ kss.length ≤ j + 1 ∧ ∀ ns ∈ kss, 1 ≤ ns.length ∧ ns.length ≤ 4 ∧ ∀ n ∈ ns, 1 ≤ n ∧ n ≤ 10 ^ 12
/-- one group, behind which nothing is read -/
theorem kaut_grp {j : Nat} {ax : Option Nat} {p : List Nat} {b : Bool} (l : List Nat) (h : 32 ∉ p) : kaut j ax [] (p ++ l) b = kaut j ax p l b := by
  rw [kaut_free _ _ h, List.nil_append]
theorem kaut_one {j : Nat} {ax : Option Nat} {p : List Nat} {b : Bool} (h : 32 ∉ p) : kaut j ax [] p b = groupB ax p b := by
  have := kaut_grp (j := j) (ax := ax) (b := b) [] h
  rw [List.append_nil] at this
  exact this
theorem spl_grp {p : List Nat} (h : 32 ∉ p) : spl 32 p = [p] := by
  have := spA_free (c := 32) [] [] h
  rw [List.append_nil] at this
  rw [spl, this]
  rfl
theorem ReadS.noB {k : Nat} {l : List Nat} {o : Option (List Int)} {r p : List Nat} (R : ReadS k l o r p) : 32 ∉ p := fun m => by
  have := (aut_signs p R.beg).2 32 m
  omega
/-- what the group's end tells: c is the next sign -/
theorem dead_grp {j k : Nat} {ax : Option Nat} {l : List Nat} {o : Option (List Int)} {c : Nat} {r p q : List Nat} (R : ReadS k l o r p) (hl : limA ax = k + 1) (e : r = c :: q) (h32 : c = 32 → groupB (some (ax.getD (spl 120 p).length)) p true = false ∨ j = 0) :
    kaut j ax [] (p ++ [c]) false = false := by
  rw [kaut_grp _ R.noB]
  unfold kaut
  split
  · rename_i ec
    rcases h32 ec with z | z
    · rw [z]; rfl
    · subst z; simp
  · show groupB ax (p ++ [c]) false = false
    rw [groupB, hl, spl_aut, R.dead c q e]
    rfl
theorem groups_read {a : Nat} (a1 : 1 ≤ a) (a4 : a ≤ 4) : ∀ (j : Nat) (l : List Nat), ∃ p, ReadK j (some a) l (groupsOf a j l).1 (groupsOf a j l).2 p := by
  have hl : limA (some a) = a - 1 + 1 := by show min 4 a = _; omega
  have gb : ∀ (p : List Nat) (b : Bool), groupB (some a) p b = (aut (a - 1) [] p b && fitA (some a) (spl 120 p).length b) := fun p b => by rw [groupB, hl, spl_aut]
  have none_ : ∀ (j : Nat) (l : List Nat) (q p : List Nat), ReadS (a - 1) l none q p → ReadK j (some a) l none q p := fun j l q p R => by
    have b0 : groupB (some a) p true = false := by rw [gb, R.bad rfl]; rfl
    exact ⟨R.eq, by rw [kaut_one R.noB, gb, R.beg]; rfl, fun c z e => dead_grp R hl e fun _ => .inl b0, fun _ => by rw [kaut_one R.noB]; exact b0, fun _ h => by cases h⟩
  have len_ : ∀ (l : List Nat) (s : List Int) (q p : List Nat), ReadS (a - 1) l (some s) q p → (spl 120 p).length = s.length := fun l s q p R => by
    have := congrArg List.length (R.ok s rfl).2.1
    rwa [List.length_map] at this
  have short_ : ∀ (j : Nat) (l : List Nat) (s : List Int) (q p : List Nat), ReadS (a - 1) l (some s) q p → s.length < a → ReadK j (some a) l none q p := fun j l s q p R lt => by
    have hn := len_ l s q p R
    have b0 : groupB (some a) p true = false := by
      rw [gb, show fitA (some a) (spl 120 p).length true = false by simp [fitA]; omega]
      simp
    exact ⟨R.eq, by rw [kaut_one R.noB, gb, R.beg]; rfl, fun c z e => dead_grp R hl e fun _ => .inl b0, fun _ => by rw [kaut_one R.noB]; exact b0, fun _ h => by cases h⟩
  have full_ : ∀ (l : List Nat) (s : List Int) (q p : List Nat), ReadS (a - 1) l (some s) q p → ¬ s.length < a → groupB (some a) p true = true := fun l s q p R nlt => by
    have hn := len_ l s q p R
    obtain ⟨h1, h2, h3, h4, h5⟩ := R.ok s rfl
    rw [gb, h1, show fitA (some a) (spl 120 p).length true = true by simp [fitA]; omega]
    rfl
  have last_ : ∀ (j : Nat) (l : List Nat) (s : List Int) (q p : List Nat), ReadS (a - 1) l (some s) q p → ¬ s.length < a → (j = 0 ∨ q.head? ≠ some 32) → ReadK j (some a) l (some [s]) q p := fun j l s q p R nlt hj => by
    have g1 := full_ l s q p R nlt
    obtain ⟨h1, h2, h3, h4, h5⟩ := R.ok s rfl
    refine ⟨R.eq, by rw [kaut_one R.noB, gb, R.beg]; rfl, fun c z e => dead_grp R hl e fun ec => .inr (hj.elim id fun h => absurd (by rw [e, ec]; rfl) h), (fun h => by cases h), fun kss e => ?_⟩
    cases e
    refine ⟨by rw [kaut_one R.noB]; exact g1, ?_, by simp, by simp, fun ns hm => ?_⟩
    · rw [spl_grp R.noB]
      exact congrArg (fun x => [x]) h2
    · rw [List.mem_singleton.mp hm]
      exact ⟨h3, by omega, h5⟩
  intro j
  induction j with
  | zero =>
    intro l
    obtain ⟨p, R⟩ := sides_read (a - 1) l
    unfold groupsOf
    rcases hx : sidesOf (a - 1) l with ⟨o, q⟩
    rw [hx] at R
    cases o with
    | none => exact ⟨p, none_ _ _ _ _ R⟩
    | some s =>
      by_cases lt : s.length < a
      · simp only [if_pos lt]
        exact ⟨p, short_ _ _ _ _ _ R lt⟩
      · simp only [if_neg lt]
        exact ⟨p, last_ _ _ _ _ _ R lt (.inl rfl)⟩
  | succ j ih =>
    intro l
    obtain ⟨p, R⟩ := sides_read (a - 1) l
    unfold groupsOf
    rcases hx : sidesOf (a - 1) l with ⟨o, q⟩
    rw [hx] at R
    cases o with
    | none => exact ⟨p, none_ _ _ _ _ R⟩
    | some s =>
      by_cases lt : s.length < a
      · simp only [if_pos lt]
        exact ⟨p, short_ _ _ _ _ _ R lt⟩
      · simp only [if_neg lt]
        by_cases e : q.head? = some 32
        · simp only [if_pos e]
          obtain ⟨q, rfl⟩ : ∃ z, q = 32 :: z := by
            cases q with
            | nil => simp at e
            | cons c z => simp at e; exact ⟨z, by rw [e]⟩
          obtain ⟨p', K⟩ := ih q
          have g1 := full_ l s _ p R lt
          obtain ⟨h1, h2, h3, h4, h5⟩ := R.ok s rfl
          have A : ∀ (z : List Nat) (b : Bool), kaut (j + 1) (some a) [] (p ++ 32 :: z) b = kaut j (some a) [] z b := fun z b => by
            rw [kaut_grp _ R.noB, kaut, if_pos rfl, Option.getD_some, g1]
            simp
          refine ⟨p ++ 32 :: p', ?_, ?_, fun c z hz => ?_, fun hn => ?_, fun kss hs => ?_⟩
          · show l = p ++ 32 :: p' ++ (groupsOf a j q).2
            rw [List.append_assoc, List.cons_append, ← K.eq]
            exact R.eq
          · rw [A]; exact K.beg
          · rw [List.append_assoc, List.cons_append, A]
            exact K.dead c z hz
          · rw [A]
            exact K.bad (by simpa using hn)
          · obtain ⟨ms, hm, rfl⟩ : ∃ ms, (groupsOf a j q).1 = some ms ∧ s :: ms = kss := by simpa using hs
            obtain ⟨k1, k2, k3, k4, k5⟩ := K.ok ms hm
            refine ⟨by rw [A]; exact k1, ?_, by simp, by simp; omega, fun ns hm => ?_⟩
            · rw [spl, spA_free _ _ R.noB, List.nil_append, spA, if_pos rfl, List.map_cons]
              exact congr (congrArg _ h2) k2
            · rcases List.mem_cons.mp hm with rfl | hm
              · exact ⟨h3, by omega, h5⟩
              · exact k5 ns hm
        · simp only [if_neg e]
          exact ⟨p, last_ _ _ _ _ _ R lt (.inr e)⟩
theorem kinds_read (l : List Nat) : ∃ p, ReadK 3 none l (kindsOf l).1 (kindsOf l).2 p := by
  obtain ⟨p, R⟩ := sides_read 3 l
  have gb : ∀ (p : List Nat) (b : Bool), groupB none p b = aut 3 [] p b := fun p b => by
    rw [groupB, show limA none = 3 + 1 from rfl, spl_aut]
    simp [fitA]
  unfold kindsOf
  rcases hx : sidesOf 3 l with ⟨o, q⟩
  rw [hx] at R
  have wh : ∀ s, o = some s → groupB (some (spl 120 p).length) p true = true ∧ (spl 120 p).length = s.length := fun s e => by
    subst e
    obtain ⟨h1, h2, h3, h4, h5⟩ := R.ok s rfl
    have hn := congrArg List.length h2
    rw [List.length_map] at hn
    rw [← spl_aut] at h1
    refine ⟨?_, hn⟩
    simp only [groupB, limA, fitA, Bool.and_eq_true, Bool.not_true, Bool.false_or, decide_true, and_true]
    rw [Nat.min_eq_right (by omega)]
    simp only [textB, Bool.and_eq_true, decide_eq_true_eq] at h1 ⊢
    exact ⟨⟨Nat.le_refl _, h1.1.2⟩, h1.2⟩
  have b0 : o = none → groupB (some (spl 120 p).length) p true = false := fun e => by
    cases h : groupB (some (spl 120 p).length) p true with
    | false => rfl
    | true =>
      simp only [groupB, limA, Bool.and_eq_true] at h
      have := textB_mono h.1 (show min 4 (spl 120 p).length ≤ 3 + 1 from Nat.min_le_left ..)
      rw [spl_aut, R.bad e] at this
      cases this
  cases o with
  | none =>
    exact ⟨p, R.eq, by rw [kaut_one R.noB, gb]; exact R.beg, fun c z e => dead_grp R rfl e fun _ => .inl (b0 rfl), fun _ => by rw [kaut_one R.noB, gb]; exact R.bad rfl, fun _ h => by cases h⟩
  | some s =>
    obtain ⟨g1, hn⟩ := wh s rfl
    obtain ⟨h1, h2, h3, h4, h5⟩ := R.ok s rfl
    by_cases e : q.head? = some 32
    · simp only [if_pos e]
      obtain ⟨q, rfl⟩ : ∃ z, q = 32 :: z := by
        cases q with
        | nil => simp at e
        | cons c z => simp at e; exact ⟨z, by rw [e]⟩
      obtain ⟨p', K⟩ := groups_read (a := s.length) h3 h4 2 q
      have A : ∀ (z : List Nat) (b : Bool), kaut 3 none [] (p ++ 32 :: z) b = kaut 2 (some s.length) [] z b := fun z b => by
        rw [kaut_grp _ R.noB, kaut, if_pos rfl, Option.getD_none, g1, hn]
        simp
      refine ⟨p ++ 32 :: p', ?_, ?_, fun c z hz => ?_, fun hn => ?_, fun kss hs => ?_⟩
      · show l = p ++ 32 :: p' ++ (groupsOf s.length 2 q).2
        rw [List.append_assoc, List.cons_append, ← K.eq]
        exact R.eq
      · rw [A]; exact K.beg
      · rw [List.append_assoc, List.cons_append, A]
        exact K.dead c z hz
      · rw [A]
        exact K.bad (by simpa using hn)
      · obtain ⟨ms, hm, rfl⟩ : ∃ ms, (groupsOf s.length 2 q).1 = some ms ∧ s :: ms = kss := by simpa using hs
        obtain ⟨k1, k2, k3, k4, k5⟩ := K.ok ms hm
        refine ⟨by rw [A]; exact k1, ?_, by simp, by simp; omega, fun ns hm => ?_⟩
        · rw [spl, spA_free _ _ R.noB, List.nil_append, spA, if_pos rfl, List.map_cons]
          exact congr (congrArg _ h2) k2
        · rcases List.mem_cons.mp hm with rfl | hm
          · exact ⟨h3, by omega, h5⟩
          · exact k5 ns hm
    · simp only [if_neg e]
      refine ⟨p, R.eq, by rw [kaut_one R.noB, gb]; exact R.beg, fun c z e' => dead_grp R rfl e' fun ec => absurd (by rw [e', ec]; rfl) e, (fun h => by cases h), fun kss ek => ?_⟩
      cases ek
      refine ⟨by rw [kaut_one R.noB, gb]; exact h1, ?_, by simp, by simp, fun ns hm => ?_⟩
      · rw [spl_grp R.noB]
        exact congrArg (fun x => [x]) h2
      · rw [List.mem_singleton.mp hm]
        exact ⟨h3, by omega, h5⟩
def readK (L : List Nat) : Option (List (List Int)) := if (kindsOf L).2 = [] then (kindsOf L).1 else none
def badK (L : List Nat) : Nat := L.length - (kindsOf L).2.length
theorem spl_kaut (L : List Nat) (b : Bool) : kindsB (spl 32 L) b = kaut 3 none [] L b := kindsB_kaut L []
theorem readK_ok {L : List Nat} {kss : List (List Int)} (h : readK L = some kss) : kindsB (spl 32 L) true = true ∧ (spl 32 L).map valG = kss ∧ 1 ≤ kss.length ∧ kss.length ≤ 4 ∧ ∀ ns ∈ kss, 1 ≤ ns.length ∧ ns.length ≤ 4 ∧ ∀ n ∈ ns, 1 ≤ n ∧ n ≤ 10 ^ 12 := by
  unfold readK at h
  split at h
  · rename_i e
    obtain ⟨p, R⟩ := kinds_read L
    have := R.eq
    rw [e, List.append_nil] at this
    subst this
    obtain ⟨h1, h2, h3, h4, h5⟩ := R.ok kss h
    exact ⟨by rw [spl_kaut]; exact h1, h2, h3, h4, h5⟩
  · simp at h
theorem readK_bad {L : List Nat} (h : readK L = none) : kindsB (spl 32 L) true = false ∧ ((List.range L.length).filter (fun k => !kindsB (spl 32 (L.take (k + 1))) false) ++ [L.length]).head? = some (badK L) := by
  obtain ⟨p, R⟩ := kinds_read L
  have e := R.eq
  have lp : badK L = p.length := by
    have := congrArg List.length e
    rw [List.length_append] at this
    unfold badK
    omega
  constructor
  · rw [spl_kaut]
    cases hr : (kindsOf L).2 with
    | nil =>
      rw [hr, List.append_nil] at e
      have hb := R.bad (by simpa [readK, hr] using h)
      rw [← e] at hb
      exact hb
    | cons c q =>
      cases hx : kaut 3 none [] L true with
      | false => rfl
      | true =>
        rw [e, hr, show p ++ c :: q = (p ++ [c]) ++ q by simp] at hx
        have := kaut_pre q _ hx
        rw [R.dead c q hr] at this
        simp at this
  · rw [lp]
    refine first_bad (fun k hk => ?_) (fun hk => ?_) (by have := congrArg List.length e; rw [List.length_append] at this; omega)
    · rw [spl_kaut]
      have t : L.take (k + 1) = p.take (k + 1) := by
        rw [e, List.take_append_of_le_length (by omega)]
      have b := R.beg
      rw [← List.take_append_drop (k + 1) p] at b
      rw [t, kaut_pre _ _ b]
      rfl
    · rw [spl_kaut]
      cases hr : (kindsOf L).2 with
      | nil => rw [hr, List.append_nil] at e; rw [e] at hk; omega
      | cons c q =>
        have t : L.take (p.length + 1) = p ++ [c] := by
          conv => lhs; rw [e, hr]
          rw [show p ++ c :: q = (p ++ [c]) ++ q by simp, List.take_append_of_le_length (by simp), List.take_of_length_le (by simp)]
        rw [t, R.dead c q hr]
        rfl
end TW
set_option Elab.async false
set_option linter.all false
set_option maxRecDepth 100000
set_option maxHeartbeats 4000000
namespace TW
open PySem PySem.Spec PyProof.Rows L2 DL
def oddL : List PyData := [.none, .bool true, .bool false, .int 0, .int 1, .int 2, .int (-1), .int (10 ^ 30), .str "", .str "a", .str "0", .str "2x3", .tuple [], .list [], .dict [], .tuple [.int 0], .tuple [.int 1], .tuple [.int 0, .int 0], .tuple [.int 1, .int 1],
  .tuple [.bool true], .tuple [.int 0, .tuple [.int 0]], .tuple [.int 0, .tuple [.int 0, .int 0]], .tuple [.int 1, .tuple [.int 0, .int 0]], .tuple [.int 0, .tuple [.int 0, .int 0], .int 1], .tuple [.tuple [.int 0, .int 0], .int 1], .tuple [.tuple [.int 0], .int 1], .tuple [.str "step", .int 0],
  .tuple [.none], .tuple [.int (-1)], .tuple [.int 0, .tuple [.int (-1)]], .tuple [.int 0, .tuple [.bool true, .int 0]], .tuple [.int 2, .int 1], .tuple [.tuple [.int 2, .int 1], .tuple [.int 1, .int 2]], .tuple [.tuple [.int 2], .tuple [.int 3]]]
def sp_Lodd : DSp := fun cs R => ∃ a b c, cs = [.dk a b c] ∧ ∀ x ∈ oddL, R x [.dk a b c]
def spN_Lbent : Nat → DSp
  | 0 => fun _ _ => False
  | n + 1 => fun cs R => ∃ a b c v deep d w, cs = [.dk a b c, .d v, .d (.int deep)] ∧ deep ≤ n ∧ d ≤ 50 ∧ (v ≠ .dict [] → Shp false d w v) ∧ w ≤ 100000 ∧ ∀ x, Shp true (d + 3) ((n + 1) * (30 * w + 1000)) x → R x [.dk a b c, .d v, .d (.int deep)]
theorem none_Lbent : ∀ cs R, ¬ spN_Lbent 0 cs R := fun _ _ h => h
/-- a value with some part of it otherwise: of any sort -/
def sp_Lbent : DSp := spN_Lbent 5
def wholeB (lo hi : Int) : PyData → Bool
  | .int i => decide (lo ≤ i) && decide (i ≤ hi)
  | _ => false
def sp_is_integer : DSp := fun cs R => ∃ d lo hi, cs = [.d d, .d (.int lo), .d (.int hi)] ∧ R (.bool (wholeB lo hi d)) [.d d, .d (.int lo), .d (.int hi)]
def sp_Lfar : DSp := fun cs R => ∃ a b c, cs = [.dk a b c] ∧ ∀ i : Int, 1 ≤ i → i ≤ 10 ^ 12 → R (.int i) [.dk a b c]
def sp_Lwide : DSp := fun cs R => ∃ a b c n, cs = [.dk a b c, .d (.int n)] ∧ 0 ≤ n ∧ n ≤ 1000 ∧ ∀ ns : List Int, ns.length = n.toNat → In (10 ^ 12) ns → R (tI ns) [.dk a b c, .d (.int n)]
theorem ln_Lbent : ∀ (n : Nat) cs R, spN_Lbent n cs R → cs.length = 3
  | 0, _, _, h => h.elim
  | n + 1, _, _, ⟨_, _, _, _, _, _, _, e, _⟩ => by rw [e]; rfl
def w_is_integer : DTS := (wRet (wAndV (wIsi "int" (wVar 0)) (wAndV (wNotV (wIsi "bool" (wVar 0))) (wChain pLe pLe (wVar 1) (wVar 0) (wVar 2)))))
def w_Lodd_s1 : DTS := (wRet (wCall [true, false] sp_Lone (wCons (wVar 0) (wCons (wOp pAddB (wVar 1) (wOfL (wLst (wCons (wTup (wCons (wC .none) wNil)) (wCons (wTup (wCons (wUn pNeg (wC (.int 1))) wNil)) (wCons (wTup (wCons (wC (.int 0)) (wCons (wTup (wCons (wUn pNeg (wC (.int 1))) wNil)) wNil))) (wCons (wTup (wCons (wC (.int 0)) (wCons (wTup (wCons (wC (.bool true)) (wCons (wC (.int 0)) wNil))) wNil))) (wCons (wTup (wCons (wC (.int 2)) (wCons (wC (.int 1)) wNil))) (wCons (wTup (wCons (wTup (wCons (wC (.int 2)) (wCons (wC (.int 1)) wNil))) (wCons (wTup (wCons (wC (.int 1)) (wCons (wC (.int 2)) wNil))) wNil))) (wCons (wTup (wCons (wTup (wCons (wC (.int 2)) wNil)) (wCons (wTup (wCons (wC (.int 3)) wNil)) wNil))) wNil)))))))))) wNil))))
@[simp ↓] theorem w_Lodd_s1_ap (E : DEnds) (δ : DS) : w_Lodd_s1 E δ = (wRet (wCall [true, false] sp_Lone (wCons (wVar 0) (wCons (wOp pAddB (wVar 1) (wOfL (wLst (wCons (wTup (wCons (wC .none) wNil)) (wCons (wTup (wCons (wUn pNeg (wC (.int 1))) wNil)) (wCons (wTup (wCons (wC (.int 0)) (wCons (wTup (wCons (wUn pNeg (wC (.int 1))) wNil)) wNil))) (wCons (wTup (wCons (wC (.int 0)) (wCons (wTup (wCons (wC (.bool true)) (wCons (wC (.int 0)) wNil))) wNil))) (wCons (wTup (wCons (wC (.int 2)) (wCons (wC (.int 1)) wNil))) (wCons (wTup (wCons (wTup (wCons (wC (.int 2)) (wCons (wC (.int 1)) wNil))) (wCons (wTup (wCons (wC (.int 1)) (wCons (wC (.int 2)) wNil))) wNil))) (wCons (wTup (wCons (wTup (wCons (wC (.int 2)) wNil)) (wCons (wTup (wCons (wC (.int 3)) wNil)) wNil))) wNil)))))))))) wNil)))) E δ := rfl
def w_Lodd_s2 : DTS := (wSeq (wSet 1 (mE (wOp pAddB (wVar 1) (wOfL (wLst (wCons (wTup (wCons (wC (.bool true)) wNil)) (wCons (wTup (wCons (wC (.int 0)) (wCons (wTup (wCons (wC (.int 0)) wNil)) wNil))) (wCons (wTup (wCons (wC (.int 0)) (wCons (wTup (wCons (wC (.int 0)) (wCons (wC (.int 0)) wNil))) wNil))) (wCons (wTup (wCons (wC (.int 1)) (wCons (wTup (wCons (wC (.int 0)) (wCons (wC (.int 0)) wNil))) wNil))) (wCons (wTup (wCons (wC (.int 0)) (wCons (wTup (wCons (wC (.int 0)) (wCons (wC (.int 0)) wNil))) (wCons (wC (.int 1)) wNil)))) (wCons (wTup (wCons (wTup (wCons (wC (.int 0)) (wCons (wC (.int 0)) wNil))) (wCons (wC (.int 1)) wNil))) (wCons (wTup (wCons (wTup (wCons (wC (.int 0)) wNil)) (wCons (wC (.int 1)) wNil))) (wCons (wTup (wCons (wC (.str "step")) (wCons (wC (.int 0)) wNil))) wNil))))))))))))) w_Lodd_s1)
@[simp ↓] theorem w_Lodd_s2_ap (E : DEnds) (δ : DS) : w_Lodd_s2 E δ = (wSeq (wSet 1 (mE (wOp pAddB (wVar 1) (wOfL (wLst (wCons (wTup (wCons (wC (.bool true)) wNil)) (wCons (wTup (wCons (wC (.int 0)) (wCons (wTup (wCons (wC (.int 0)) wNil)) wNil))) (wCons (wTup (wCons (wC (.int 0)) (wCons (wTup (wCons (wC (.int 0)) (wCons (wC (.int 0)) wNil))) wNil))) (wCons (wTup (wCons (wC (.int 1)) (wCons (wTup (wCons (wC (.int 0)) (wCons (wC (.int 0)) wNil))) wNil))) (wCons (wTup (wCons (wC (.int 0)) (wCons (wTup (wCons (wC (.int 0)) (wCons (wC (.int 0)) wNil))) (wCons (wC (.int 1)) wNil)))) (wCons (wTup (wCons (wTup (wCons (wC (.int 0)) (wCons (wC (.int 0)) wNil))) (wCons (wC (.int 1)) wNil))) (wCons (wTup (wCons (wTup (wCons (wC (.int 0)) wNil)) (wCons (wC (.int 1)) wNil))) (wCons (wTup (wCons (wC (.str "step")) (wCons (wC (.int 0)) wNil))) wNil))))))))))))) w_Lodd_s1) E δ := rfl
def w_Lodd : DTS := (wSeq (wSet 1 (mE (wOfL (wLst (wCons (wC .none) (wCons (wC (.bool true)) (wCons (wC (.bool false)) (wCons (wC (.int 0)) (wCons (wC (.int 1)) (wCons (wC (.int 2)) (wCons (wUn pNeg (wC (.int 1))) (wCons (wOp pPow (wC (.int 10)) (wC (.int 30))) (wCons (wC (.str "")) (wCons (wC (.str "a")) (wCons (wC (.str "0")) (wCons (wC (.str "2x3")) (wCons (wTup wNil) (wCons (wOfL (wLst wNil)) (wCons wDic (wCons (wTup (wCons (wC (.int 0)) wNil)) (wCons (wTup (wCons (wC (.int 1)) wNil)) (wCons (wTup (wCons (wC (.int 0)) (wCons (wC (.int 0)) wNil))) (wCons (wTup (wCons (wC (.int 1)) (wCons (wC (.int 1)) wNil))) wNil))))))))))))))))))))))) w_Lodd_s2)
def w_Lbent_s1 (sp_self : DSp) : DTS := (wRet (wCall [true, false] sp_Lone (wCons (wVar 0) (wCons (wOp pAddB (wVar 5) (wOfL (wLst (wCons (wOp pAddB (wSl pSl (wVar 1) wNoP (wPart (wVar 3))) (wSl pSl (wVar 1) (wPart (wOp pAddB (wVar 3) (wC (.int 1)))) wNoP)) (wCons (wOp pAddB (wOp pAddB (wSl pSl (wVar 1) wNoP (wPart (wVar 3))) (wTup (wCons (wCall [true] sp_Lodd (wCons (wVar 0) wNil)) wNil))) (wSl pSl (wVar 1) (wPart (wVar 3)) wNoP)) wNil))))) wNil))))
@[simp ↓] theorem w_Lbent_s1_ap (sp_self : DSp) (E : DEnds) (δ : DS) : w_Lbent_s1 sp_self E δ = (wRet (wCall [true, false] sp_Lone (wCons (wVar 0) (wCons (wOp pAddB (wVar 5) (wOfL (wLst (wCons (wOp pAddB (wSl pSl (wVar 1) wNoP (wPart (wVar 3))) (wSl pSl (wVar 1) (wPart (wOp pAddB (wVar 3) (wC (.int 1)))) wNoP)) (wCons (wOp pAddB (wOp pAddB (wSl pSl (wVar 1) wNoP (wPart (wVar 3))) (wTup (wCons (wCall [true] sp_Lodd (wCons (wVar 0) wNil)) wNil))) (wSl pSl (wVar 1) (wPart (wVar 3)) wNoP)) wNil))))) wNil)))) E δ := rfl
def w_Lbent_s2 (sp_self : DSp) : DTS := (wSeq (wSet 5 (mE (wOfL (wLst (wCons (wCall [true] sp_Lodd (wCons (wVar 0) wNil)) (wCons (wSl pSl (wVar 1) (wPart (wC (.int 1))) wNoP) (wCons (wSl pSl (wVar 1) wNoP (wPart (wUn pNeg (wC (.int 1))))) (wCons (wRevA (wVar 1)) (wCons (wOfL (wFnL pLstOf (wCons (wVar 1) wNil))) (wCons (wOp pAddB (wVar 1) (wSl pSl (wVar 1) (wPart (wUn pNeg (wC (.int 1)))) wNoP)) wNil)))))))))) (w_Lbent_s1 sp_self))
@[simp ↓] theorem w_Lbent_s2_ap (sp_self : DSp) (E : DEnds) (δ : DS) : w_Lbent_s2 sp_self E δ = (wSeq (wSet 5 (mE (wOfL (wLst (wCons (wCall [true] sp_Lodd (wCons (wVar 0) wNil)) (wCons (wSl pSl (wVar 1) (wPart (wC (.int 1))) wNoP) (wCons (wSl pSl (wVar 1) wNoP (wPart (wUn pNeg (wC (.int 1))))) (wCons (wRevA (wVar 1)) (wCons (wOfL (wFnL pLstOf (wCons (wVar 1) wNil))) (wCons (wOp pAddB (wVar 1) (wSl pSl (wVar 1) (wPart (wUn pNeg (wC (.int 1)))) wNoP)) wNil)))))))))) (w_Lbent_s1 sp_self)) E δ := rfl
def w_Lbent_s3 (sp_self : DSp) : DTS := (wRet (wCall [true, false] sp_Lone (wCons (wVar 0) (wCons (wOp pAddB (wVar 4) (wOfL (wLst (wCons (wCall [true] sp_Lodd (wCons (wVar 0) wNil)) (wCons (wCall [true] sp_Lodd (wCons (wVar 0) wNil)) wNil))))) wNil))))
@[simp ↓] theorem w_Lbent_s3_ap (sp_self : DSp) (E : DEnds) (δ : DS) : w_Lbent_s3 sp_self E δ = (wRet (wCall [true, false] sp_Lone (wCons (wVar 0) (wCons (wOp pAddB (wVar 4) (wOfL (wLst (wCons (wCall [true] sp_Lodd (wCons (wVar 0) wNil)) (wCons (wCall [true] sp_Lodd (wCons (wVar 0) wNil)) wNil))))) wNil)))) E δ := rfl
def w_Lbent_1 (sp_self : DSp) : DTS := (wSeq (wSet 4 (mE (wIfE (wB (wIsi "int" (wVar 1))) (wOfL (wLst (wCons (wOp pAddB (wVar 1) (wC (.int 1))) (wCons (wOp pSubB (wVar 1) (wC (.int 1))) (wCons (wFn pBool (wCons (wVar 1) wNil)) (wCons (wFn pStrB (wCons (wVar 1) wNil)) wNil)))))) (wOfL (wLst wNil))))) (w_Lbent_s3 sp_self))
def w_Lbent_t1 (sp_self : DSp) : DTS := (wSeq (wSet 3 (mE (wCall [true, false] sp_Ldraw (wCons (wVar 0) (wCons (wOp pAddB (wFn pLen (wCons (wVar 1) wNil)) (wC (.int 1))) wNil))))) (w_Lbent_s2 sp_self))
def w_Lbent_s4 (sp_self : DSp) : DTS := (wRet (wOp pAddB (wOp pAddB (wSl pSl (wVar 1) wNoP (wPart (wVar 3))) (wTup (wCons (wCall [true, false, false] sp_self (wCons (wVar 0) (wCons (wOp pIx (wVar 1) (wVar 3)) (wCons (wOp pSubB (wVar 2) (wC (.int 1))) wNil)))) wNil))) (wSl pSl (wVar 1) (wPart (wOp pAddB (wVar 3) (wC (.int 1)))) wNoP)))
@[simp ↓] theorem w_Lbent_s4_ap (sp_self : DSp) (E : DEnds) (δ : DS) : w_Lbent_s4 sp_self E δ = (wRet (wOp pAddB (wOp pAddB (wSl pSl (wVar 1) wNoP (wPart (wVar 3))) (wTup (wCons (wCall [true, false, false] sp_self (wCons (wVar 0) (wCons (wOp pIx (wVar 1) (wVar 3)) (wCons (wOp pSubB (wVar 2) (wC (.int 1))) wNil)))) wNil))) (wSl pSl (wVar 1) (wPart (wOp pAddB (wVar 3) (wC (.int 1)))) wNoP))) E δ := rfl
def w_Lbent_3 (sp_self : DSp) : DTS := (wSeq (wSet 3 (mE (wCall [true, false] sp_Ldraw (wCons (wVar 0) (wCons (wFn pLen (wCons (wVar 1) wNil)) wNil))))) (w_Lbent_s4 sp_self))
def w_Lbent_t2 (sp_self : DSp) : DTS := (wSeq (wIf (wNot (wB (wIsi "tuple" (wVar 1)))) (w_Lbent_1 sp_self) wNext) (w_Lbent_t1 sp_self))
def w_Lbent (sp_self : DSp) : DTS := (wSeq (wIf (wAnd (wB (wIsi "tuple" (wVar 1))) (wAnd (wB (wOp pNe (wVar 1) (wTup wNil))) (wAnd (wB (wOp pGt (wVar 2) (wC (.int 0)))) (wB (wOp pGt (wCall [true, false] sp_Ldraw (wCons (wVar 0) (wCons (wC (.int 4)) wNil))) (wC (.int 0))))))) (w_Lbent_3 sp_self) wNext) (w_Lbent_t2 sp_self))
def w_Lfar : DTS := (wRet (wCall [true, false] sp_Lone (wCons (wVar 0) (wCons (wOfL (wLst (wCons (wOp pAddB (wC (.int 1)) (wCall [true, false] sp_Ldraw (wCons (wVar 0) (wCons (wC (.int 9)) wNil)))) (wCons (wOp pAddB (wC (.int 1)) (wCall [true, false] sp_Ldraw (wCons (wVar 0) (wCons (wOp pPow (wC (.int 10)) (wC (.int 6))) wNil)))) (wCons (wOp pAddB (wC (.int 1)) (wCall [true, false] sp_Ldraw (wCons (wVar 0) (wCons (wOp pPow (wC (.int 10)) (wC (.int 12))) wNil)))) (wCons (wOp pPow (wC (.int 10)) (wC (.int 12))) wNil)))))) wNil))))
def w_Lwide : DTS := (wRet (wFn pTupOf (wCons (wOfL (wComp (iRange1 (wCons (wVar 1) wNil)) (gN 2) tT (wCall [true] sp_Lfar (wCons (wVar 0) wNil)) [2])) wNil)))
theorem ln_is_integer : ∀ cs R, sp_is_integer cs R → cs.length = 3 := by
  intro cs R h
  unfold sp_is_integer at h
  repeat (obtain ⟨_, h⟩ := h)
  subst_vars; rfl
theorem ln_Lodd : ∀ cs R, sp_Lodd cs R → cs.length = 1 := by
  intro cs R h
  unfold sp_Lodd at h
  repeat (obtain ⟨_, h⟩ := h)
  subst_vars; rfl
theorem ln_Lfar : ∀ cs R, sp_Lfar cs R → cs.length = 1 := by
  intro cs R h
  unfold sp_Lfar at h
  repeat (obtain ⟨_, h⟩ := h)
  subst_vars; rfl
theorem ln_Lwide : ∀ cs R, sp_Lwide cs R → cs.length = 2 := by
  intro cs R h
  unfold sp_Lwide at h
  repeat (obtain ⟨_, h⟩ := h)
  subst_vars; rfl
end TW
set_option Elab.async false
set_option linter.all false
set_option maxRecDepth 100000
set_option maxHeartbeats 4000000
namespace TW
open PySem PySem.Spec PyProof.Rows L2 DL
@[simp] theorem isTy_int_i (i : Int) : isTy "int" (.int i) = true := by rw [isTy, tyName]; decide
@[simp] theorem isTy_int_b (i : Bool) : isTy "int" (.bool i) = true := by rw [isTy, tyName]; decide
@[simp] theorem isTy_int_n : isTy "int" .none = false := by rw [isTy, tyName]; decide
@[simp] theorem isTy_int_s (i : Str) : isTy "int" (.str i) = false := by rw [isTy, tyName]; decide
@[simp] theorem isTy_int_l (i : List PyData) : isTy "int" (.list i) = false := by rw [isTy, tyName]; decide
@[simp] theorem isTy_int_t (i : List PyData) : isTy "int" (.tuple i) = false := by rw [isTy, tyName]; decide
@[simp] theorem isTy_int_d (i : List (PyData × PyData)) : isTy "int" (.dict i) = false := by rw [isTy, tyName]; decide
@[simp] theorem isTy_bool_i (i : Int) : isTy "bool" (.int i) = false := by rw [isTy, tyName]; decide
@[simp] theorem isTy_bool_b (i : Bool) : isTy "bool" (.bool i) = true := by rw [isTy, tyName]; decide
@[simp] theorem isTy_bool_n : isTy "bool" .none = false := by rw [isTy, tyName]; decide
@[simp] theorem isTy_bool_s (i : Str) : isTy "bool" (.str i) = false := by rw [isTy, tyName]; decide
@[simp] theorem isTy_bool_l (i : List PyData) : isTy "bool" (.list i) = false := by rw [isTy, tyName]; decide
@[simp] theorem isTy_bool_t (i : List PyData) : isTy "bool" (.tuple i) = false := by rw [isTy, tyName]; decide
@[simp] theorem isTy_bool_d (i : List (PyData × PyData)) : isTy "bool" (.dict i) = false := by rw [isTy, tyName]; decide
@[simp] theorem isTy_tuple_i (i : Int) : isTy "tuple" (.int i) = false := by rw [isTy, tyName]; decide
@[simp] theorem isTy_tuple_b (i : Bool) : isTy "tuple" (.bool i) = false := by rw [isTy, tyName]; decide
@[simp] theorem isTy_tuple_n : isTy "tuple" .none = false := by rw [isTy, tyName]; decide
@[simp] theorem isTy_tuple_s (i : Str) : isTy "tuple" (.str i) = false := by rw [isTy, tyName]; decide
@[simp] theorem isTy_tuple_l (i : List PyData) : isTy "tuple" (.list i) = false := by rw [isTy, tyName]; decide
@[simp] theorem isTy_tuple_t (i : List PyData) : isTy "tuple" (.tuple i) = true := by rw [isTy, tyName]; decide
@[simp] theorem isTy_tuple_d (i : List (PyData × PyData)) : isTy "tuple" (.dict i) = false := by rw [isTy, tyName]; decide
@[simp] theorem isTy_str_i (i : Int) : isTy "str" (.int i) = false := by rw [isTy, tyName]; decide
@[simp] theorem isTy_str_b (i : Bool) : isTy "str" (.bool i) = false := by rw [isTy, tyName]; decide
@[simp] theorem isTy_str_n : isTy "str" .none = false := by rw [isTy, tyName]; decide
@[simp] theorem isTy_str_s (i : Str) : isTy "str" (.str i) = true := by rw [isTy, tyName]; decide
@[simp] theorem isTy_str_l (i : List PyData) : isTy "str" (.list i) = false := by rw [isTy, tyName]; decide
@[simp] theorem isTy_str_t (i : List PyData) : isTy "str" (.tuple i) = false := by rw [isTy, tyName]; decide
@[simp] theorem isTy_str_d (i : List (PyData × PyData)) : isTy "str" (.dict i) = false := by rw [isTy, tyName]; decide
theorem rd_is_integer : ∀ cs R, sp_is_integer cs R → w_is_integer (endsOf cs R) (start0 3 cs) := by
  rintro _ R ⟨d, lo, hi, rfl, hR⟩
  cases d with
  | int i =>
    simp -implicitDefEqProofs -dsimp [w_is_integer]
    have hR : R (.bool (decide (lo ≤ i) && decide (i ≤ hi))) [.d (.int i), .d (.int lo), .d (.int hi)] := hR
    by_cases h : lo ≤ i
    · rw [if_pos h]
      simpa [h] using hR
    · rw [if_neg h]
      simpa [h] using hR
  | bool b => simp -implicitDefEqProofs -dsimp [w_is_integer]; exact hR
  | none => simp -implicitDefEqProofs -dsimp [w_is_integer]; exact hR
  | str z => simp -implicitDefEqProofs -dsimp [w_is_integer]; exact hR
  | list z => simp -implicitDefEqProofs -dsimp [w_is_integer]; exact hR
  | tuple z => simp -implicitDefEqProofs -dsimp [w_is_integer]; exact hR
  | dict z => simp -implicitDefEqProofs -dsimp [w_is_integer]; exact hR
theorem rd_Lodd : ∀ cs R, sp_Lodd cs R → w_Lodd (endsOf cs R) (start0 2 cs) := by
  rintro _ R ⟨a, b, c, rfl, hR⟩
  simp -implicitDefEqProofs -dsimp [w_Lodd]
  refine ⟨by simp [CPow], ?_⟩
  refine ask_of ⟨a, b, c, _, _, rfl, rfl, by simp, by simp, fun x hx => ?_⟩
  (try simp -implicitDefEqProofs -dsimp)
  exact hR x (by simpa [oddL] using hx)
theorem shp_row1 {x : PyData} {n w : Nat} (h : Shp true n w x) : Shp true (n + 1) (w + 2 + 0 + 4) (.tuple [x]) := Shp.tuple (ShpL.cons h ShpL.nil)
theorem odd_shp : ∀ x ∈ oddL, Shp true 3 200 x := by
  intro x hx
  refine ⟨?_, ?_, ?_⟩
  · revert x; decide +kernel
  · revert x; decide +kernel
  · revert x; decide +kernel
theorem rd_Lfar : ∀ cs R, sp_Lfar cs R → w_Lfar (endsOf cs R) (start0 1 cs) := by
  rintro _ R ⟨a, b, c, rfl, hR⟩
  simp -implicitDefEqProofs -dsimp [w_Lfar]
  refine ask_draw (by omega) (by omega) fun u u0 u1 => ?_
  (try simp -implicitDefEqProofs -dsimp)
  refine ⟨by simp [CPow], ask_draw (by simp) (by simp) fun v v0 v1 => ?_⟩
  (try simp -implicitDefEqProofs -dsimp)
  refine ⟨by simp [CPow], ask_draw (by simp) (by simp) fun t t0 t1 => ?_⟩
  (try simp -implicitDefEqProofs -dsimp)
  refine ⟨by simp [CPow], ?_⟩
  refine ask_of ⟨a, b, c, _, _, rfl, rfl, by simp, by simp, fun x hx => ?_⟩
  (try simp -implicitDefEqProofs -dsimp)
  simp only [List.mem_cons, List.not_mem_nil, or_false] at hx
  rcases hx with rfl | rfl | rfl | rfl
  · exact hR _ (by omega) (by omega)
  · exact hR _ (by omega) (by omega)
  · exact hR _ (by omega) (by omega)
  · exact hR _ (by omega) (by omega)
theorem rd_Lwide : ∀ cs R, sp_Lwide cs R → w_Lwide (endsOf cs R) (start0 3 cs) := by
  rintro _ R ⟨a, b, c, n, rfl, h0, h1, hR⟩
  simp -implicitDefEqProofs -dsimp [w_Lwide]
  refine ⟨by omega, by omega, ?_⟩
  refine com_ints (fun i => 1 ≤ i ∧ i ≤ 10 ^ 12) (fun x hx acc K hK => ?_) fun ns hl hn => ?_
  · (try simp -implicitDefEqProofs -dsimp)
    refine ask_of ⟨a, b, c, rfl, fun i i0 i1 => ?_⟩
    (try simp -implicitDefEqProofs -dsimp)
    exact hK _ ⟨i0, i1⟩
  · (try simp -implicitDefEqProofs -dsimp)
    exact hR ns (by simpa [nums] using hl) hn
theorem eqv_nilT (xs : List PyData) : PyData.eqvAll xs [] = xs.isEmpty := by cases xs <;> simp [PyData.eqvAll]
theorem log_add1 {i j : Int} (h : j.natAbs ≤ i.natAbs + 1) : j.natAbs.log2 ≤ i.natAbs.log2 + 1 := by
  by_cases c : j.natAbs = 0
  · rw [c]; simp
  · have h1 : i.natAbs < 2 ^ (i.natAbs.log2 + 1) := Nat.lt_log2_self
    have h2 : 2 ^ (i.natAbs.log2 + 1) + 2 ^ (i.natAbs.log2 + 1) = 2 ^ (i.natAbs.log2 + 2) := by rw [Nat.pow_succ 2 (i.natAbs.log2 + 1)]; omega
    have : j.natAbs < 2 ^ (i.natAbs.log2 + 2) := by omega
    have := (Nat.log2_lt c).mpr this
    omega
theorem int_of_shp {z : Bool} {d w : Nat} {i : Int} (h : Shp z d w (.int i)) : i.natAbs.log2 < (if z = true then 1900 else 1800) ∧ i.natAbs.log2 + 9 ≤ w :=
  ⟨by have := h.ok; simpa [okd] using this, by have := h.wt; simpa [wgt] using this⟩
/-- behind the first two tests: a tuple -/
theorem rd_Lbent_t {sp_self : DSp} {E : DEnds} {a b c : Addr} {xs : List PyData} {deep : Int} {n d w : Nat} {c3 c4 c5 : Cell} (h : Shp false d w (.tuple xs)) (hw : w ≤ 100000)
    (k : ∀ x, Shp true (d + 3) ((n + 1) * (30 * w + 1000)) x → ∀ c3 c4 c5, E.rt x [.dk a b c, .d (.tuple xs), .d (.int deep), c3, c4, c5]) :
    w_Lbent_t2 sp_self E [.dk a b c, .d (.tuple xs), .d (.int deep), c3, c4, c5] := by
  obtain ⟨m, rfl⟩ := h.pos
  have it := h.items
  have itu := it.up
  have hlen : xs.length ≤ 100000 := by
    have : ∀ ys : List PyData, ys.length ≤ wgtL ys := by
      intro ys
      induction ys with
      | nil => simp
      | cons y ys ih => simp only [List.length_cons, wgtL]; omega
    have := this xs
    have := it.wt
    omega
  have big : 30 * w + 1000 ≤ (n + 1) * (30 * w + 1000) := by
    have := Nat.mul_le_mul_right (30 * w + 1000) (show 1 ≤ n + 1 by omega)
    omega
  simp -implicitDefEqProofs -dsimp [w_Lbent_t2, w_Lbent_t1]
  refine ask_draw (by omega) (by omega) fun t t0 t1 => ?_
  obtain ⟨at', rfl⟩ : ∃ k : Nat, t = k := ⟨t.toNat, by omega⟩
  (try simp -implicitDefEqProofs -dsimp)
  refine ask_of ⟨a, b, c, rfl, fun y hy => ?_⟩
  have cl := fun lo hi => cutD_len xs lo hi
  (try simp -implicitDefEqProofs -dsimp)
  refine ⟨by have := cl (some (-1)) none; omega, ?_⟩
  have c1 := cl none (some (at' : Int))
  have c2 := cl (some ((at' : Int) + 1)) none
  have c3' := cl (some (at' : Int)) none
  refine ⟨by omega, ask_of ⟨a, b, c, rfl, fun y2 hy2 => ?_⟩⟩
  (try simp -implicitDefEqProofs -dsimp)
  refine ⟨by omega, by omega, ask_of ⟨a, b, c, _, _, rfl, rfl, by simp, by simp, fun x hx => ?_⟩⟩
  (try simp -implicitDefEqProofs -dsimp)
  refine k x ?_ _ _ _
  have o1 := odd_shp y hy
  have o2 := odd_shp y2 hy2
  simp only [List.cons_append, List.nil_append, List.mem_cons, List.not_mem_nil, or_false] at hx
  rcases hx with rfl | rfl | rfl | rfl | rfl | rfl | rfl | rfl
  · exact o1.mono (by omega) (by omega)
  · exact (Shp.tuple (itu.cut _ _)).mono (by omega) (by omega)
  · exact (Shp.tuple (itu.cut _ _)).mono (by omega) (by omega)
  · exact (Shp.tuple itu.rev).mono (by omega) (by omega)
  · exact (Shp.list itu).mono (by omega) (by omega)
  · exact (Shp.tuple (itu.app (itu.cut _ _))).mono (by omega) (by omega)
  · exact (Shp.tuple ((itu.cut _ _).app (itu.cut _ _))).mono (by omega) (by omega)
  · exact (Shp.tuple (((itu.cut _ _).mono (m := m + 3) (by omega) (Nat.le_refl _)).app (ShpL.cons (o2.mono (m := m + 3) (by omega) (Nat.le_refl _)) ((itu.cut _ _).mono (m := m + 3) (by omega) (Nat.le_refl _))))).mono (by omega) (by omega)
/-- .. no tuple -/
theorem rd_Lbent_1 {sp_self : DSp} {E : DEnds} {a b c : Addr} {v : PyData} {deep : Int} {n d w : Nat} {c3 c4 c5 : Cell} (h : v ≠ .dict [] → Shp false d w v) (hw : w ≤ 100000) (hv : isTy "tuple" v = false)
    (k : ∀ x, Shp true (d + 3) ((n + 1) * (30 * w + 1000)) x → ∀ c3 c4 c5, E.rt x [.dk a b c, .d v, .d (.int deep), c3, c4, c5]) :
    w_Lbent_t2 sp_self E [.dk a b c, .d v, .d (.int deep), c3, c4, c5] := by
  have big : 30 * w + 1000 ≤ (n + 1) * (30 * w + 1000) := by
    have := Nat.mul_le_mul_right (30 * w + 1000) (show 1 ≤ n + 1 by omega)
    omega
  have two : ∀ ys : List PyData, ys.length ≤ 10 → (∀ x ∈ ys, Shp true (d + 3) (30 * w + 1000) x) → ∀ c3 c5, w_Lbent_s3 sp_self E [.dk a b c, .d v, .d (.int deep), c3, .d (.list ys), c5] := fun ys hl hs c3 c5 => by
    (try simp -implicitDefEqProofs -dsimp)
    refine ask_of ⟨a, b, c, rfl, fun y hy => ?_⟩
    (try simp -implicitDefEqProofs -dsimp)
    refine ask_of ⟨a, b, c, rfl, fun y2 hy2 => ?_⟩
    (try simp -implicitDefEqProofs -dsimp)
    refine ⟨by omega, ask_of ⟨a, b, c, _, _, rfl, rfl, by simp, by simp; omega, fun x hx => ?_⟩⟩
    (try simp -implicitDefEqProofs -dsimp)
    refine k x ?_ _ _ _
    rcases List.mem_append.mp hx with hx | hx
    · exact (hs x hx).mono (by omega) big
    · simp only [List.mem_cons, List.not_mem_nil, or_false] at hx
      rcases hx with rfl | rfl
      · exact (odd_shp x hy).mono (by omega) (by omega)
      · exact (odd_shp x hy2).mono (by omega) (by omega)
  cases v with
  | tuple xs => cases hv
  | int i =>
    obtain ⟨i0, i1⟩ := int_of_shp (h (by simp))
    simp only [Bool.false_eq_true, if_false] at i0
    simp -implicitDefEqProofs -dsimp [w_Lbent_t2, w_Lbent_1, -w_Lbent_s3_ap]
    refine ⟨by omega, ?_⟩
    refine two _ (by simp) (fun x hx => ?_) _ _
    simp only [List.mem_cons, List.not_mem_nil, or_false] at hx
    rcases hx with rfl | rfl | rfl | rfl
    · exact (Shp.int1 (n := 0) (log_add1 (i := i) (j := i + 1) (by omega)) (by omega)).mono (by omega) (by omega)
    · exact (Shp.int1 (n := 0) (log_add1 (i := i) (j := i - 1) (by omega)) (by omega)).mono (by omega) (by omega)
    · exact Shp.bool.mono (n := 0) (by omega) (by omega)
    · exact (Shp.intStr (n := 0) (Nat.le_refl _)).mono (by omega) (by omega)
  | bool i =>
    simp -implicitDefEqProofs -dsimp [w_Lbent_t2, w_Lbent_1, -w_Lbent_s3_ap]
    refine two _ (by simp) (fun x hx => ?_) _ _
    simp only [List.mem_cons, List.not_mem_nil, or_false] at hx
    rcases hx with rfl | rfl | rfl | rfl
    · exact (Shp.int64 (n := 0) (by cases i <;> simp) (by cases i <;> simp)).mono (by omega) (by omega)
    · exact (Shp.int64 (n := 0) (by cases i <;> simp) (by cases i <;> simp)).mono (by omega) (by omega)
    · exact Shp.bool.mono (n := 0) (by omega) (by omega)
    · cases i
      · exact (Shp.ofStr (n := 0) (s := "False") (k := 5) (by decide)).mono (by omega) (by omega)
      · exact (Shp.ofStr (n := 0) (s := "True") (k := 5) (by decide)).mono (by omega) (by omega)
  | none =>
    simp -implicitDefEqProofs -dsimp [w_Lbent_t2, w_Lbent_1, -w_Lbent_s3_ap]
    exact two [] (by simp) (fun x hx => by cases hx) _ _
  | str z =>
    simp -implicitDefEqProofs -dsimp [w_Lbent_t2, w_Lbent_1, -w_Lbent_s3_ap]
    exact two [] (by simp) (fun x hx => by cases hx) _ _
  | list z =>
    simp -implicitDefEqProofs -dsimp [w_Lbent_t2, w_Lbent_1, -w_Lbent_s3_ap]
    exact two [] (by simp) (fun x hx => by cases hx) _ _
  | dict z =>
    simp -implicitDefEqProofs -dsimp [w_Lbent_t2, w_Lbent_1, -w_Lbent_s3_ap]
    exact two [] (by simp) (fun x hx => by cases hx) _ _
theorem rd_Lbent : ∀ (n : Nat) cs R, spN_Lbent (n + 1) cs R → w_Lbent (spN_Lbent n) (endsOf cs R) (start0 6 cs) := by
  rintro n _ R ⟨a, b, c, v, deep, d, w, rfl, hd, hd2, h, hw, hR⟩
  by_cases hv : isTy "tuple" v = false
  · simp -implicitDefEqProofs -dsimp [w_Lbent, hv]
    refine rd_Lbent_1 (n := n) h hw hv fun x hx c3 c4 c5 => ?_
    (try simp -implicitDefEqProofs -dsimp)
    exact hR x hx
  · obtain ⟨xs, rfl⟩ : ∃ xs, v = .tuple xs := by
      cases v <;> first | exact ⟨_, rfl⟩ | exact absurd (by simp) hv
    have h := h (by simp)
    have rest : w_Lbent_t2 (spN_Lbent n) (endsOf [.dk a b c, .d (.tuple xs), .d (.int deep)] R) [.dk a b c, .d (.tuple xs), .d (.int deep), .em, .em, .em] :=
      rd_Lbent_t (n := n) h hw fun x hx c3 c4 c5 => by
        (try simp -implicitDefEqProofs -dsimp)
        exact hR x hx
    obtain ⟨m, rfl⟩ := h.pos
    have it := h.items
    have itu := it.up
    simp -implicitDefEqProofs -dsimp [w_Lbent]
    refine ⟨h.shaped (by omega), (Shp.tuple ShpL.nil : Shp false 1 _ _).shaped, ?_⟩
    split
    · exact rest
    rename_i hne
    rw [eqv_nilT] at hne
    split
    · rename_i hdeep
      refine ask_draw (by omega) (by omega) fun t t0 t1 => ?_
      (try simp -implicitDefEqProofs -dsimp)
      split
      · simp -implicitDefEqProofs -dsimp [w_Lbent_3]
        have hl : 0 < xs.length := List.length_pos_iff.mpr (by simpa using hne)
        have hlen : xs.length ≤ 100000 := by
          have : ∀ ys : List PyData, ys.length ≤ wgtL ys := by
            intro ys
            induction ys with
            | nil => simp
            | cons y ys ih => simp only [List.length_cons, wgtL]; omega
          have := this xs
          have := it.wt
          omega
        refine ask_draw (by omega) (by omega) fun u u0 u1 => ?_
        obtain ⟨k, rfl⟩ : ∃ k : Nat, u = k := ⟨u.toNat, by omega⟩
        have hk : k < xs.length := by omega
        have ex : xs[k]? = some xs[k] := List.getElem?_eq_getElem hk
        have im := it.mem (List.getElem_mem hk)
        simp -implicitDefEqProofs -dsimp [ex]
        cases n with
        | zero => omega
        | succ n =>
          refine ask_of ⟨a, b, c, xs[k], deep - 1, m, w, rfl, by omega, by omega, fun _ => im, hw, fun y hy => ?_⟩
          have hp := cut_put (y := y) hk
          rw [List.append_assoc, List.singleton_append] at hp
          (try simp -implicitDefEqProofs -dsimp)
          have c1 := cutD_len xs none (some (k : Int))
          have c2 := cutD_len xs (some ((k : Int) + 1)) none
          refine ⟨by omega, by omega, ?_⟩
          have e : w + (n + 1) * (30 * w + 1000) + w + 6 ≤ (n + 1 + 1) * (30 * w + 1000) := by rw [Nat.succ_mul (n + 1)]; omega
          exact hR _ ((Shp.tuple (((itu.cut _ _).mono (m := m + 3) (by omega) (Nat.le_refl _)).app (ShpL.cons hy ((itu.cut _ _).mono (m := m + 3) (by omega) (Nat.le_refl _))))).mono (by omega) (by omega))
      · exact rest
    · exact rest
end TW
set_option Elab.async false
set_option linter.all false
set_option maxRecDepth 100000
set_option maxHeartbeats 4000000
namespace TW
open PySem PySem.NumText PySem.Spec PyProof.Rows L2 DL
/-! ### rows of signs of little length, values of texts -/
structure SOk (n : Nat) (L : List Nat) : Prop where
  l : L.length ≤ n
  s : ∀ c ∈ L, c < 1000
def vOk (n : Nat) (v : PyData) : Prop := ∀ z, v = .str z → SOk n z.cps.toList
theorem split_at (c : Nat) {z : Str} (hz : z = S [c]) (L : List Nat) : (Txt.split ⟨L.toArray⟩ z).map PyData.str = (spl c L).map tS := by
  have := split_spl c L
  rw [hz, show (⟨L.toArray⟩ : Str) = S L from rfl, this, List.map_map]
  rfl
theorem split_at_n (c : Nat) {z : Str} (hz : z = S [c]) (L : List Nat) : (Txt.split ⟨L.toArray⟩ z).length = (spl c L).length := by
  have := congrArg List.length (split_at c hz L)
  simpa using this
theorem split_x (L : List Nat) : (Txt.split ⟨L.toArray⟩ (Str.ofString "x")).map PyData.str = (spl 120 L).map tS := split_at 120 sep_x L
theorem split_n (L : List Nat) : (Txt.split ⟨L.toArray⟩ (Str.ofString "x")).length = (spl 120 L).length := split_at_n 120 sep_x L
theorem split_b (L : List Nat) : (Txt.split ⟨L.toArray⟩ (Str.ofString " ")).map PyData.str = (spl 32 L).map tS := split_at 32 sep_b L
theorem split_bn (L : List Nat) : (Txt.split ⟨L.toArray⟩ (Str.ofString " ")).length = (spl 32 L).length := split_at_n 32 sep_b L
theorem spA_mem {c : Nat} : ∀ (l v : List Nat), ∀ w ∈ spA c v l, w.length ≤ v.length + l.length ∧ ∀ x ∈ w, x ∈ v ∨ x ∈ l
  | [], v, w, h => by
    rw [spA, List.mem_singleton] at h
    subst h
    exact ⟨by simp, fun x hx => .inl hx⟩
  | d :: r, v, w, h => by
    unfold spA at h
    split at h
    · rcases List.mem_cons.mp h with rfl | h
      · exact ⟨by simp, fun x hx => .inl hx⟩
      · obtain ⟨h1, h2⟩ := spA_mem r [] w h
        exact ⟨by simp at h1 ⊢; omega, fun x hx => .inr ((h2 x hx).elim (fun z => by simp at z) fun z => by simp [z])⟩
    · obtain ⟨h1, h2⟩ := spA_mem r _ w h
      exact ⟨by simp at h1 ⊢; omega, fun x hx => by have := h2 x hx; simp at this ⊢; rcases this with (z | z) | z <;> simp [z]⟩
theorem spA_cnt {c : Nat} : ∀ (l v : List Nat), (spA c v l).length ≤ l.length + 1
  | [], v => by simp [spA]
  | d :: r, v => by
    unfold spA
    split
    · have := spA_cnt (c := c) r []; simp; omega
    · exact Nat.le_trans (spA_cnt (c := c) r (v ++ [d])) (by simp)
theorem SOk.word {n c : Nat} {L : List Nat} (h : SOk n L) : ∀ w ∈ spl c L, SOk n w := fun w hw => by
  obtain ⟨h1, h2⟩ := spA_mem L [] w hw
  exact ⟨by have := h.l; simp at h1; omega, fun c hc => (h2 c hc).elim (fun z => by simp at z) (h.s c)⟩
theorem cut_m1 {α : Type} (l : List α) (x : α) : DL.cutD (l ++ [x]) none (some (-1)) = l := by
  unfold DL.cutD
  have e : HT.sIx (l ++ [x]).length (l ++ [x]).length (some (-1)) = l.length := by
    unfold HT.sIx
    simp
    omega
  rw [HT.sIx_none, e]
  simp
theorem SOk.shp {n : Nat} {w : List Nat} (h : SOk n w) : Shp false 0 (10 * n + 2) (tS w) := by
  refine Shp.text ?_ (by rw [len_S]; exact h.l)
  show (w.toArray).all (· < 0x110000) = true
  rw [Array.all_eq_true]
  intro i hi
  have := h.s _ (List.getElem_mem (l := w) (by simpa using hi))
  simp
  omega
theorem good_len {w : List Nat} (g : goodB w = true) : w.length ≤ 13 := by
  obtain ⟨c, r, rfl⟩ := List.exists_cons_of_ne_nil (goodB_ne g)
  obtain ⟨h1, h2, h3⟩ := goodB_iff.mp g
  have c0 := h1 c (by simp)
  have := val_len (c := c) (r := r) (by simp at h2; omega)
  rcases Nat.lt_or_ge r.length 13 with l | l
  · simp; omega
  · have : 10 ^ 13 ≤ 10 ^ r.length := Nat.pow_le_pow_right (by decide) l
    omega
theorem ok_good {k : Nat} {ws : List (List Nat)} (h : textB k ws true = true) : ∀ w ∈ ws, goodB w = true := by
  simp only [textB, Bool.and_eq_true, List.all_eq_true] at h
  obtain ⟨⟨_, h1⟩, h2⟩ := h
  intro w hw
  rcases List.eq_nil_or_concat ws with rfl | ⟨ds, x, rfl⟩
  · simp at hw
  · rw [List.concat_eq_append] at *
    rcases List.mem_append.mp hw with m | m
    · exact h1 w (by simpa using m)
    · rw [List.mem_singleton.mp m]
      simpa [numB] using h2
def ZOk (n : Nat) (z : Str) : Prop := SOk n z.cps.toList
theorem ZOk.app {n m : Nat} {x y : Str} (h : ZOk n x) (k : ZOk m y) : ZOk (n + m) (x ++ y) := by
  have e : (x ++ y).cps.toList = x.cps.toList ++ y.cps.toList := Array.toList_append
  unfold ZOk
  rw [e]
  exact ⟨by rw [List.length_append]; exact Nat.add_le_add h.l k.l, fun c hc => (List.mem_append.mp hc).elim (h.s c) (k.s c)⟩
theorem sOk_of {n : Nat} {s : Str} (h : (decide (s.cps.toList.length ≤ n) && s.cps.toList.all fun c => decide (c < 1000)) = true) : ZOk n s := by
  simp only [Bool.and_eq_true, decide_eq_true_eq, List.all_eq_true] at h
  exact ⟨h.1, h.2⟩
theorem strOkZ {n : Nat} {s : Str} (h : ZOk n s) : PyData.strOk s = true := by
  show s.cps.all (· < 0x110000) = true
  rw [Array.all_eq_true]
  intro i hi
  have := h.s _ (show s.cps[i] ∈ s.cps.toList by simp)
  simp
  omega
theorem ZOk.le {n m : Nat} {z : Str} (h : ZOk n z) (k : n ≤ m) : ZOk m z := ⟨Nat.le_trans h.l k, h.s⟩
theorem ZOk.cut {n : Nat} {z : Str} (h : ZOk n z) (lo hi : Option Int) : ZOk n (cutS z lo hi) :=
  ⟨by have := cutS_length z lo hi; have := h.l; simp only [Str.length, ← Array.length_toList] at *; omega, fun c hc => h.s c (List.mem_of_mem_drop (List.mem_of_mem_take (by simpa [cutS] using hc)))⟩
theorem ZOk.len {n : Nat} {z : Str} (h : ZOk n z) : z.length ≤ n := by have := h.l; simpa [Str.length] using this
theorem cut_S (L : List Nat) (k : Nat) : cutS ⟨⟨L⟩⟩ none (some ((k : Int) + 1)) = S (L.take (k + 1)) := by
  have e : ((k : Int) + 1) = ((k + 1 : Nat) : Int) := rfl
  unfold cutS
  rw [HT.sIx_none, e, HT.sIx_nat, show (⟨⟨L⟩⟩ : Str).length = L.length from len_S]
  show (⟨((L.drop 0).take (min (k + 1) L.length - 0)).toArray⟩ : Str) = _
  have e3 : L.take (min (k + 1) L.length) = L.take (k + 1) := by
    rcases Nat.le_total (k + 1) L.length with h | h
    · rw [Nat.min_eq_left h]
    · rw [Nat.min_eq_right h, List.take_of_length_le (Nat.le_refl _), List.take_of_length_le h]
  rw [List.drop_zero, Nat.sub_zero, e3]
  rfl
theorem nums0 (n : Nat) : nums 0 n = (List.range n).map fun (k : Nat) => PyData.int (k : Int) := by simp [nums]
def vOkB (v : PyData) : Bool := match v with
  | .str z => decide (z.cps.toList.length ≤ 1500) && z.cps.toList.all fun c => decide (c < 1000)
  | _ => true
theorem vOk_of {v : PyData} (h : vOkB v = true) : vOk 1500 v := by
  rintro z rfl
  simp only [vOkB, Bool.and_eq_true, decide_eq_true_eq, List.all_eq_true] at h
  exact ⟨h.1, h.2⟩
theorem odd_ok : ∀ x ∈ oddL, vOk 1500 x := fun x hx => vOk_of (List.all_eq_true.mp (show oddL.all vOkB = true by decide +kernel) x hx)
theorem shp_num {ns : List Int} (l : ns.length ≤ 4) (h : ∀ n ∈ ns, NumOk n) : Shp false 1 208 (tI ns) :=
  Shp.tuple (shp_ints (k := 40) l (fun x hx => Nat.le_of_lt_succ (log_abs (B := 41) (by decide) (by have := (h x hx).1; omega) (by have := (h x hx).2; omega))))
end TW
set_option Elab.async false
set_option linter.all false
set_option maxRecDepth 100000
set_option maxHeartbeats 4000000
namespace TW
open PySem PySem.Spec PyProof.Rows L2 DL
def parseKD (v : PyData) : PyData := match v with
  | .str z => match readK z.cps.toList with | some kss => .tuple (kss.map tI) | none => badD (posD (badK z.cps.toList))
  | _ => badD .none
def sp_parse_kindsX : DSp := fun cs R => ∃ v : PyData, cs = [.d v] ∧ okS v ∧ R (parseKD v) cs
def w_parse_kindsX_1 : DTS := (wRaise (wMk1 "BadText" "place" (wCons (wVar 2) wNil)))
def w_parse_kindsX_t1 : DTS := (wRet (wFn pTupOf (wCons (wVar 3) wNil)))
def w_parse_kindsX_3 : DTS := (wRaise (wMk1 "BadText" "place" (wCons (wVar 2) wNil)))
def w_parse_kindsX_s1 : DTS := (wSeq (wIf (wB (wOp pLt (wFn pLen (wCons (wVar 4) wNil)) (wFn pLen (wCons (wVar 1) wNil)))) w_parse_kindsX_3 wNext) (wAppend 3 (wVar 4)))
@[simp ↓] theorem w_parse_kindsX_s1_ap (E : DEnds) (δ : DS) : w_parse_kindsX_s1 E δ = (wSeq (wIf (wB (wOp pLt (wFn pLen (wCons (wVar 4) wNil)) (wFn pLen (wCons (wVar 1) wNil)))) w_parse_kindsX_3 wNext) (wAppend 3 (wVar 4))) E δ := rfl
def w_parse_kindsX_4 : DTS := (wSeq (wAsgGX (wCallX [] sp_sides_atX (xA (wCons (wVar 0) (wCons (wOp pAddB (wVar 2) (wC (.int 1))) (wCons (wFn pLen (wCons (wVar 1) wNil)) wNil))))) (gT (gsCons (gN 4) (gsCons (gN 2) gsNil)))) w_parse_kindsX_s1)
def w_parse_kindsX_t2 : DTS := (wSeq (wIf (wB (wOp pLt (wVar 2) (wFn pLen (wCons (wVar 0) wNil)))) w_parse_kindsX_1 wNext) w_parse_kindsX_t1)
def w_parse_kindsX_s2 : DTS := (wSeq (wWhile (wAnd (wB (wOp pLt (wVar 2) (wFn pLen (wCons (wVar 0) wNil)))) (wAnd (wB (wOp pEq (wOp pIx (wVar 0) (wVar 2)) (wC (.str " ")))) (wB (wOp pLt (wFn pLen (wCons (wVar 3) wNil)) (wC (.int 4)))))) w_parse_kindsX_4) w_parse_kindsX_t2)
@[simp ↓] theorem w_parse_kindsX_s2_ap (E : DEnds) (δ : DS) : w_parse_kindsX_s2 E δ = (wSeq (wWhile (wAnd (wB (wOp pLt (wVar 2) (wFn pLen (wCons (wVar 0) wNil)))) (wAnd (wB (wOp pEq (wOp pIx (wVar 0) (wVar 2)) (wC (.str " ")))) (wB (wOp pLt (wFn pLen (wCons (wVar 3) wNil)) (wC (.int 4)))))) w_parse_kindsX_4) w_parse_kindsX_t2) E δ := rfl
def w_parse_kindsX_s3 : DTS := (wSeq (wSet 3 (mL (wLst (wCons (wVar 1) wNil)))) w_parse_kindsX_s2)
@[simp ↓] theorem w_parse_kindsX_s3_ap (E : DEnds) (δ : DS) : w_parse_kindsX_s3 E δ = (wSeq (wSet 3 (mL (wLst (wCons (wVar 1) wNil)))) w_parse_kindsX_s2) E δ := rfl
def w_parse_kindsX_s4 : DTS := (wSeq (wAsgGX (wCallX [] sp_sides_atX (xA (wCons (wVar 0) (wCons (wC (.int 0)) (wCons (wC (.int 4)) wNil))))) (gT (gsCons (gN 1) (gsCons (gN 2) gsNil)))) w_parse_kindsX_s3)
@[simp ↓] theorem w_parse_kindsX_s4_ap (E : DEnds) (δ : DS) : w_parse_kindsX_s4 E δ = (wSeq (wAsgGX (wCallX [] sp_sides_atX (xA (wCons (wVar 0) (wCons (wC (.int 0)) (wCons (wC (.int 4)) wNil))))) (gT (gsCons (gN 1) (gsCons (gN 2) gsNil)))) w_parse_kindsX_s3) E δ := rfl
def w_parse_kindsX : DTS := (wSeq (wDropX (wCallX [] sp_require_textX (xA (wCons (wVar 0) wNil)))) w_parse_kindsX_s4)
theorem ln_parse_kindsX : ∀ cs R, sp_parse_kindsX cs R → cs.length = 1 := by
  intro cs R h
  unfold sp_parse_kindsX at h
  repeat (obtain ⟨_, h⟩ := h)
  subst_vars; rfl
end TW
set_option Elab.async false
set_option linter.all false
set_option maxRecDepth 100000
set_option maxHeartbeats 4000000
namespace TW
open PySem PySem.Spec PyProof.Rows L2 DL
/-- what is read behind a group -/
def contK (a j : Nat) (r : List Nat) : Option (List (List Int)) × List Nat := if 0 < j ∧ r.head? = some 32 then groupsOf a (j - 1) r.tail else (some [], r)
theorem groupsOf_cont (a j : Nat) (l : List Nat) : groupsOf a j l = match sidesOf (a - 1) l with | (none, q) => (none, q) | (some s, q) => if s.length < a then (none, q) else ((contK a j q).1.map (s :: ·), (contK a j q).2) := by
  cases j with
  | zero =>
    unfold groupsOf contK
    rcases sidesOf (a - 1) l with ⟨o, q⟩
    cases o <;> simp
  | succ j =>
    unfold groupsOf contK
    rcases sidesOf (a - 1) l with ⟨o, q⟩
    cases o with
    | none => rfl
    | some s => by_cases h : q.head? = some 32 <;> simp [h]
theorem kindsOf_cont (l : List Nat) : kindsOf l = match sidesOf 3 l with | (none, q) => (none, q) | (some s, q) => ((contK s.length 3 q).1.map (s :: ·), (contK s.length 3 q).2) := by
  unfold kindsOf contK
  rcases sidesOf 3 l with ⟨o, q⟩
  cases o with
  | none => rfl
  | some s => by_cases h : q.head? = some 32 <;> simp [h]
theorem suffS (k : Nat) {L : List Nat} {a : Nat} (ha : a ≤ L.length) : (sidesOf k (L.drop a)).2 = L.drop (L.length - (sidesOf k (L.drop a)).2.length) ∧ L.length - (sidesOf k (L.drop a)).2.length ≤ L.length := by
  obtain ⟨p, R⟩ := sides_read k (L.drop a)
  have e := R.eq
  generalize (sidesOf k (L.drop a)).2 = r at e ⊢
  have e3 := congrArg List.length e
  rw [List.length_drop, List.length_append] at e3
  have e2 := congrArg (List.drop p.length) e
  rw [List.drop_append_of_le_length (Nat.le_refl _), List.drop_length, List.nil_append, List.drop_drop] at e2
  have : a + p.length = L.length - r.length := by omega
  rw [this] at e2
  exact ⟨e2.symm, by omega⟩
theorem rd_parse_kindsX : ∀ cs R, sp_parse_kindsX cs R → w_parse_kindsX (endsOf cs R) (start0 5 cs) := by
  rintro _ R ⟨v, rfl, hv, hR⟩
  simp -implicitDefEqProofs -dsimp [w_parse_kindsX]
  refine ask_of (sp := sp_require_textX) ⟨v, rfl, ?_⟩
  by_cases h : isTy "str" v = true
  · rw [if_pos h]
    obtain ⟨z, rfl⟩ : ∃ z, v = .str z := by cases v <;> first | exact ⟨_, rfl⟩ | exact absurd h (by simp [isTy, tyName])
    obtain ⟨⟨L⟩⟩ := z
    have hl : L.length ≤ 100000 := by have := hv _ rfl; rwa [len_S] at this
    simp -implicitDefEqProofs -dsimp [w_parse_kindsX_s4]
    refine ask_of (sp := sp_sides_atX) ⟨L, 0, 3, rfl, Nat.zero_le _, hl, by omega, ?_⟩
    rw [List.drop_zero]
    obtain ⟨hs1, hs2⟩ := suffS 3 (L := L) (a := 0) (Nat.zero_le _)
    rw [List.drop_zero] at hs1 hs2
    have hR' : R (match readK L with | some kss => .tuple (kss.map tI) | none => badD (posD (badK L))) [.d (tS L)] := hR
    unfold readK badK at hR'
    rw [kindsOf_cont] at hR'
    have rd := sides_read 3 L
    rcases hx : sidesOf 3 L with ⟨o, r⟩
    rw [hx] at hR' hs1 hs2 rd
    simp only at hR' hs1 hs2 rd
    cases o with
    | none =>
      simp -implicitDefEqProofs -dsimp [badD]
      have e : (if r = [] then (none : Option (List (List Int))) else none) = none := by split <;> rfl
      rw [e] at hR'
      exact hR'
    | some s =>
      obtain ⟨p, RS⟩ := rd
      obtain ⟨_, _, a1, a4, _⟩ := RS.ok s rfl
      simp -implicitDefEqProofs -dsimp [w_parse_kindsX_s3, posD]
      intro fa
      generalize L.length - r.length = p0 at *
      subst hs1
      simp only at hR'
      generalize hF : (((contK s.length 3 (L.drop p0)).1.map (s :: ·), (contK s.length 3 (L.drop p0)).2) : Option (List (List Int)) × List Nat) = F at hR'
      have hF1 : Option.map (s :: ·) (contK s.length 3 (L.drop p0)).1 = F.1 := by rw [← hF]
      have hF2 : (contK s.length 3 (L.drop p0)).2 = F.2 := by rw [← hF]
      simp only [hF1, hF2] at hR'
      have hFl : F.2.length ≤ L.length := by
        rw [← hF2]
        obtain ⟨p', RK⟩ := kinds_read L
        have e := congrArg List.length RK.eq
        rw [List.length_append, kindsOf_cont, hx] at e
        simp only at e
        omega
      refine while_inv (fun m δ => ∃ (ds : List (List Int)) (j p : Nat) (c4 : Cell), j = m ∧ p ≤ L.length ∧ 0 < ds.length ∧ ds.length + j = 4 ∧ ((contK s.length j (L.drop p)).1.map (ds ++ ·), (contK s.length j (L.drop p)).2) = F ∧ δ = [.d (tS L), .d (tI s), .d (.int (p : Int)), .ol fa (ds.map tI), c4])
        (fun δ => ∃ c4, ∃ ds, F.1 = some ds ∧ δ = [.d (tS L), .d (tI s), .d (posD (L.length - F.2.length)), .ol fa (ds.map tI), c4])
        (fun x δ => ∃ c1 c3 c4, F.1 = none ∧ x = badD (posD (L.length - F.2.length)) ∧ δ = [.d (tS L), .d (tI s), c1, c3, c4]) 3 ⟨[s], 3, p0, .em, rfl, hs2, by simp, by simp, hF, by simp; rfl⟩ ?_ ?_ ?_
      · rintro δ ⟨c4, ds, e, rfl⟩
        obtain ⟨o, q⟩ := F
        simp only at e hFl
        subst e
        simp -implicitDefEqProofs -dsimp [w_parse_kindsX_t2, posD, tS, len_S]
        refine ⟨by omega, ?_⟩
        cases q with
        | nil =>
          rw [if_neg (by simp)]
          simp -implicitDefEqProofs -dsimp [w_parse_kindsX_t1]
          exact hR'
        | cons c q =>
          rw [if_pos (by simp at hFl ⊢; omega)]
          simp -implicitDefEqProofs -dsimp [w_parse_kindsX_1]
          exact hR'
      · rintro x δ ⟨c1, c3, c4, e, rfl, rfl⟩
        obtain ⟨o, q⟩ := F
        simp only at e
        subst e
        (try simp -implicitDefEqProofs -dsimp)
        have e : (if q = [] then (none : Option (List (List Int))) else none) = none := by split <;> rfl
        rw [e] at hR'
        exact hR'
      · rintro m δ ⟨ds, j, p, c4, rfl, hp, d0, dj, hF', rfl⟩ K Nn T hK hN hT
        have out : ¬ (0 < j ∧ (L.drop p).head? = some 32) → Nn [.d (tS L), .d (tI s), .d (.int (p : Int)), .ol fa (ds.map tI), c4] := fun no => by
          refine hN _ ⟨c4, ds, ?_⟩
          unfold contK at hF'
          rw [if_neg no] at hF'
          subst hF'
          have e : L.length - (L.drop p).length = p := by simp; omega
          simp only [e]
          exact ⟨by simp, rfl⟩
        rcases Nat.lt_or_eq_of_le hp with pl | rfl
        · obtain ⟨c, ac⟩ : ∃ c, L[p]? = some c := ⟨_, List.getElem?_eq_getElem pl⟩
          have hd := drop_at ac
          simp -implicitDefEqProofs -dsimp [tS, len_S, ac, b_S]
          refine ⟨by omega, ?_⟩
          rw [if_pos pl]
          refine ⟨by omega, ?_⟩
          by_cases hc : c = 32
          · subst hc
            rw [if_pos rfl]
            by_cases hj : 0 < j
            · rw [if_pos (by omega)]
              unfold contK at hF'
              rw [if_pos ⟨hj, by rw [hd]; rfl⟩, hd, List.tail_cons, groupsOf_cont] at hF'
              simp -implicitDefEqProofs -dsimp [w_parse_kindsX_4, tI]
              refine ask_of (sp := sp_sides_atX) ⟨L, p + 1, s.length - 1, by rw [show s.length - 1 + 1 = s.length by omega]; simp; rfl, pl, hl, by omega, ?_⟩
              obtain ⟨hs3, hs4⟩ := suffS (s.length - 1) (L := L) pl
              rcases hy : sidesOf (s.length - 1) (L.drop (p + 1)) with ⟨o', r'⟩
              rw [hy] at hF' hs3 hs4
              simp only at hF' hs3 hs4
              cases o' with
              | none =>
                simp only at hF'
                subst hF'
                simp -implicitDefEqProofs -dsimp [badD]
                exact hT _ _ ⟨_, _, _, rfl, rfl, rfl⟩
              | some s' =>
                simp only at hF'
                simp -implicitDefEqProofs -dsimp [posD, w_parse_kindsX_s1, tI]
                by_cases lt : s'.length < s.length
                · rw [if_pos lt] at hF'
                  subst hF'
                  rw [if_pos lt]
                  simp -implicitDefEqProofs -dsimp [w_parse_kindsX_3]
                  exact hT _ _ ⟨_, _, _, rfl, rfl, rfl⟩
                · rw [if_neg lt] at hF'
                  rw [if_neg lt]
                  (try simp -implicitDefEqProofs -dsimp)
                  generalize L.length - r'.length = p1 at *
                  subst hs3
                  refine ⟨⟨fa, _, rfl⟩, by omega, ?_⟩
                  refine hK (j - 1) _ (by omega) ⟨ds ++ [s'], j - 1, p1, .d (tI s'), rfl, hs4, by simp, by simp; omega, ?_, by simp [tS, tI, lI]⟩
                  rw [← hF']
                  generalize contK s.length (j - 1) (L.drop p1) = Z
                  obtain ⟨o, q⟩ := Z
                  cases o <;> simp
            · rw [if_neg (by omega)]
              exact out fun z => hj z.1
          · rw [if_neg hc]
            refine out fun z => hc ?_
            rw [hd] at z
            simpa using z.2
        · simp -implicitDefEqProofs -dsimp [tS, len_S]
          refine ⟨by omega, ?_⟩
          exact out fun z => by simp at z
  · rw [if_neg h]
    simp -implicitDefEqProofs -dsimp [badD]
    have e : parseKD v = badD .none := by cases v <;> first | rfl | exact absurd (by simp [isTy, tyName]) h
    rw [e] at hR
    exact hR
end TW
set_option Elab.async false
set_option linter.all false
set_option maxRecDepth 100000
set_option maxHeartbeats 4000000
namespace K06
open PySem PySem.Spec PyProof.Rows L2 DL TW
abbrev sp_law : DSp := spLaw
def axD (ax : Option Nat) : PyData := match ax with | none => .none | some a => .int (a : Int)
def sp_Lis_group : DSp := fun cs R => ∃ (g : List Nat) (ax : Option Nat) (b : Bool), cs = [.d (tS g), .d (axD ax), .d (.bool b)] ∧ SOk 2000 g ∧ (∀ a, ax = some a → a ≤ 10000) ∧ R (.bool (groupB ax g b)) cs
def sp_Lis_text : DSp := fun cs R => ∃ (L : List Nat) (b : Bool), cs = [.d (tS L), .d (.bool b)] ∧ SOk 2000 L ∧ R (.bool (kindsB (spl 32 L) b)) cs
def dueD (v : PyData) : PyData := match v with
  | .str z => match readK z.cps.toList with | some kss => .list [.str "ok", .tuple (kss.map tI)] | none => .list [.str "bad", posD (badK z.cps.toList)]
  | _ => .list [.str "bad", .none]
def sp_Ldue : DSp := fun cs R => ∃ v : PyData, cs = [.d v] ∧ vOk 1500 v ∧ R (dueD v) cs
def sp_Ltold : DSp := fun cs R => ∃ v : PyData, cs = [.d v] ∧ vOk 1500 v ∧ R (dueD v) cs
def sp_Lspoilt : DSp := fun cs R => ∃ (a1 a2 a3 : Addr) (L : List Nat), cs = [.dk a1 a2 a3, .d (tS L)] ∧ SOk 700 L ∧ ∀ L', SOk (2 * L.length + 12) L' → R (tS L') cs
def w_Lis_group_t1 : DTS := (wRet (wCall [] sp_Lis_number (wCons (wOp pIx (wVar 3) (wUn pNeg (wC (.int 1)))) (wCons (wVar 2) wNil))))
def w_Lis_group_t2 : DTS := (wSeq (wIf (wAnd (wB (wVar 2)) (wAnd (wB (wOp pIsNot (wVar 1) (wC .none))) (wB (wOp pNe (wFn pLen (wCons (wVar 3) wNil)) (wVar 1))))) (wRet (wC (.bool false))) wNext) w_Lis_group_t1)
def w_Lis_group_s1 : DTS := (wSeq (wIf (wOr (wB (wOp pGt (wFn pLen (wCons (wVar 3) wNil)) (wIfE (wB (wOp pIs (wVar 1) (wC .none))) (wC (.int 4)) (wFn pMin2 (wCons (wC (.int 4)) (wCons (wVar 1) wNil)))))) (wB (wOp pNe (wOfL (wComp (iSeq (wSl pSl (wVar 3) wNoP (wPart (wUn pNeg (wC (.int 1)))))) (gN 4) (wNot (wB (wCall [] sp_Lis_number (wCons (wVar 4) (wCons (wC (.bool true)) wNil))))) (wVar 4) [4])) (wOfL (wLst wNil))))) (wRet (wC (.bool false))) wNext) w_Lis_group_t2)
@[simp ↓] theorem w_Lis_group_s1_ap (E : DEnds) (δ : DS) : w_Lis_group_s1 E δ = (wSeq (wIf (wOr (wB (wOp pGt (wFn pLen (wCons (wVar 3) wNil)) (wIfE (wB (wOp pIs (wVar 1) (wC .none))) (wC (.int 4)) (wFn pMin2 (wCons (wC (.int 4)) (wCons (wVar 1) wNil)))))) (wB (wOp pNe (wOfL (wComp (iSeq (wSl pSl (wVar 3) wNoP (wPart (wUn pNeg (wC (.int 1)))))) (gN 4) (wNot (wB (wCall [] sp_Lis_number (wCons (wVar 4) (wCons (wC (.bool true)) wNil))))) (wVar 4) [4])) (wOfL (wLst wNil))))) (wRet (wC (.bool false))) wNext) w_Lis_group_t2) E δ := rfl
def w_Lis_group : DTS := (wSeq (wSet 3 (mE (wSplitC "x" (wVar 0)))) w_Lis_group_s1)
def w_Lis_text_t1 : DTS := (wRet (wCall [] sp_Lis_group (wCons (wOp pIx (wVar 2) (wUn pNeg (wC (.int 1)))) (wCons (wVar 3) (wCons (wVar 1) wNil)))))
def w_Lis_text_s1 : DTS := (wSeq (wIf (wOr (wB (wOp pGt (wFn pLen (wCons (wVar 2) wNil)) (wC (.int 4)))) (wB (wOp pNe (wOfL (wComp (iSeq (wSl pSl (wVar 2) wNoP (wPart (wUn pNeg (wC (.int 1)))))) (gN 4) (wNot (wB (wCall [] sp_Lis_group (wCons (wVar 4) (wCons (wVar 3) (wCons (wC (.bool true)) wNil)))))) (wVar 4) [4])) (wOfL (wLst wNil))))) (wRet (wC (.bool false))) wNext) w_Lis_text_t1)
@[simp ↓] theorem w_Lis_text_s1_ap (E : DEnds) (δ : DS) : w_Lis_text_s1 E δ = (wSeq (wIf (wOr (wB (wOp pGt (wFn pLen (wCons (wVar 2) wNil)) (wC (.int 4)))) (wB (wOp pNe (wOfL (wComp (iSeq (wSl pSl (wVar 2) wNoP (wPart (wUn pNeg (wC (.int 1)))))) (gN 4) (wNot (wB (wCall [] sp_Lis_group (wCons (wVar 4) (wCons (wVar 3) (wCons (wC (.bool true)) wNil)))))) (wVar 4) [4])) (wOfL (wLst wNil))))) (wRet (wC (.bool false))) wNext) w_Lis_text_t1) E δ := rfl
def w_Lis_text_s2 : DTS := (wSeq (wSet 3 (mE (wIfE (wB (wOp pGt (wFn pLen (wCons (wVar 2) wNil)) (wC (.int 1)))) (wFn pLen (wCons (wSplitC "x" (wOp pIx (wVar 2) (wC (.int 0)))) wNil)) (wC .none)))) w_Lis_text_s1)
@[simp ↓] theorem w_Lis_text_s2_ap (E : DEnds) (δ : DS) : w_Lis_text_s2 E δ = (wSeq (wSet 3 (mE (wIfE (wB (wOp pGt (wFn pLen (wCons (wVar 2) wNil)) (wC (.int 1)))) (wFn pLen (wCons (wSplitC "x" (wOp pIx (wVar 2) (wC (.int 0)))) wNil)) (wC .none)))) w_Lis_text_s1) E δ := rfl
def w_Lis_text : DTS := (wSeq (wSet 2 (mE (wSplitC " " (wVar 0)))) w_Lis_text_s2)
def w_Ldue_s1 : DTS := (wRet (wOfL (wLst (wCons (wC (.str "bad")) (wCons (wOp pIx (wOp pAddB (wVar 3) (wOfL (wLst (wCons (wFn pLen (wCons (wVar 0) wNil)) wNil)))) (wC (.int 0))) wNil)))))
@[simp ↓] theorem w_Ldue_s1_ap (E : DEnds) (δ : DS) : w_Ldue_s1 E δ = (wRet (wOfL (wLst (wCons (wC (.str "bad")) (wCons (wOp pIx (wOp pAddB (wVar 3) (wOfL (wLst (wCons (wFn pLen (wCons (wVar 0) wNil)) wNil)))) (wC (.int 0))) wNil))))) E δ := rfl
def w_Ldue_1 : DTS := (wRet (wOfL (wLst (wCons (wC (.str "ok")) (wCons (wFn pTupOf (wCons (wOfL (wComp (iSeq (wSplitC " " (wVar 0))) (gN 2) tT (wFn pTupOf (wCons (wOfL (wComp (iSeq (wSplitC "x" (wVar 2))) (gN 1) tT (wFn pInt (wCons (wVar 1) wNil)) [1])) wNil)) [2])) wNil)) wNil)))))
def w_Ldue_t1 : DTS := (wSeq (wSet 3 (mE (wOfL (wComp (iRange1 (wCons (wFn pLen (wCons (wVar 0) wNil)) wNil)) (gN 4) (wNot (wB (wCall [] sp_Lis_text (wCons (wSl pSl (wVar 0) wNoP (wPart (wOp pAddB (wVar 4) (wC (.int 1))))) (wCons (wC (.bool false)) wNil))))) (wVar 4) [4])))) w_Ldue_s1)
def w_Ldue_3 : DTS := (wRet (wOfL (wLst (wCons (wC (.str "bad")) (wCons (wC .none) wNil)))))
def w_Ldue_t2 : DTS := (wSeq (wIf (wB (wCall [] sp_Lis_text (wCons (wVar 0) (wCons (wC (.bool true)) wNil)))) w_Ldue_1 wNext) w_Ldue_t1)
def w_Ldue : DTS := (wSeq (wIf (wNot (wB (wIsi "str" (wVar 0)))) w_Ldue_3 wNext) w_Ldue_t2)
def w_Ltold_1 : DTS := (wSetX 1 (wLstX (axCons (xE (wC (.str "ok"))) (axCons (wCallX [] sp_parse_kindsX (xA (wCons (wVar 0) wNil))) axNil))))
def w_Ltold : DTS := (wSeq (wNoX (wTry 2 (fun _ => true) w_Ltold_1 (fun a cls d => (wSet 1 (mE (wOfL (wLst (wCons (wC (.str "bad")) (wCons (wXf a cls d 2 "place") wNil))))))))) (wRet (wVar 1)))
def w_Lspoilt_s1 : DTS := (wRet (wOp pIx (wOfL (wLst (wCons (wOp pAddB (wOp pAddB (wSl pSl (wVar 1) wNoP (wPart (wVar 2))) (wVar 4)) (wSl pSl (wVar 1) (wPart (wVar 2)) wNoP)) (wCons (wOp pAddB (wOp pAddB (wSl pSl (wVar 1) wNoP (wPart (wVar 2))) (wVar 4)) (wSl pSl (wVar 1) (wPart (wOp pAddB (wVar 2) (wC (.int 1)))) wNoP)) (wCons (wSl pSl (wVar 1) wNoP (wPart (wVar 2))) (wCons (wOp pAddB (wVar 1) (wVar 4)) wNil)))))) (wVar 3)))
@[simp ↓] theorem w_Lspoilt_s1_ap (E : DEnds) (δ : DS) : w_Lspoilt_s1 E δ = (wRet (wOp pIx (wOfL (wLst (wCons (wOp pAddB (wOp pAddB (wSl pSl (wVar 1) wNoP (wPart (wVar 2))) (wVar 4)) (wSl pSl (wVar 1) (wPart (wVar 2)) wNoP)) (wCons (wOp pAddB (wOp pAddB (wSl pSl (wVar 1) wNoP (wPart (wVar 2))) (wVar 4)) (wSl pSl (wVar 1) (wPart (wOp pAddB (wVar 2) (wC (.int 1)))) wNoP)) (wCons (wSl pSl (wVar 1) wNoP (wPart (wVar 2))) (wCons (wOp pAddB (wVar 1) (wVar 4)) wNil)))))) (wVar 3))) E δ := rfl
def w_Lspoilt_s2 : DTS := (wSeq (wSet 4 (mE (wCall [true, false] sp_Lone (wCons (wVar 0) (wCons (wOfL (wLst (wCons (wC (.str "0")) (wCons (wC (.str "1")) (wCons (wC (.str "9")) (wCons (wC (.str "x")) (wCons (wC (.str " ")) (wCons (wC (.str "-")) (wCons (wC (.str "x1")) (wCons (wC (.str "")) (wCons (wC (.str "  ")) (wCons (wC (.str ".")) (wCons (wC (.str " 1")) (wCons (wC (.str "\n")) (wCons (wC (.str "1x1")) (wCons (wC (.str "000000000000")) wNil)))))))))))))))) wNil))))) w_Lspoilt_s1)
@[simp ↓] theorem w_Lspoilt_s2_ap (E : DEnds) (δ : DS) : w_Lspoilt_s2 E δ = (wSeq (wSet 4 (mE (wCall [true, false] sp_Lone (wCons (wVar 0) (wCons (wOfL (wLst (wCons (wC (.str "0")) (wCons (wC (.str "1")) (wCons (wC (.str "9")) (wCons (wC (.str "x")) (wCons (wC (.str " ")) (wCons (wC (.str "-")) (wCons (wC (.str "x1")) (wCons (wC (.str "")) (wCons (wC (.str "  ")) (wCons (wC (.str ".")) (wCons (wC (.str " 1")) (wCons (wC (.str "\n")) (wCons (wC (.str "1x1")) (wCons (wC (.str "000000000000")) wNil)))))))))))))))) wNil))))) w_Lspoilt_s1) E δ := rfl
def w_Lspoilt : DTS := (wSeq (wPar2 2 3 (msCons (mE (wCall [true, false] sp_Ldraw (wCons (wVar 0) (wCons (wOp pAddB (wFn pLen (wCons (wVar 1) wNil)) (wC (.int 1))) wNil)))) (msCons (mE (wCall [true, false] sp_Ldraw (wCons (wVar 0) (wCons (wC (.int 4)) wNil)))) msNil))) w_Lspoilt_s2)
def w_law_1 : DTS := (wIf (wB (wOp pNe (wFn pReprN (wCons (wCall [] sp_Ltold (wCons (wVar 8) wNil)) wNil)) (wFn pReprN (wCons (wCall [] sp_Ldue (wCons (wVar 8) wNil)) wNil)))) (wRet (wC (.bool false))) wNext)
def w_law_s1 : DTS := (wFor (iSeq (wOp pAddB (wVar 7) (wOfL (wLst (wCons (wCall [true] sp_Lodd (wCons (wVar 1) wNil)) (wCons (wC .none) (wCons (wOfL (wLst (wCons (wVar 4) wNil))) wNil))))))) (gN 8) w_law_1)
@[simp ↓] theorem w_law_s1_ap (E : DEnds) (δ : DS) : w_law_s1 E δ = (wFor (iSeq (wOp pAddB (wVar 7) (wOfL (wLst (wCons (wCall [true] sp_Lodd (wCons (wVar 1) wNil)) (wCons (wC .none) (wCons (wOfL (wLst (wCons (wVar 4) wNil))) wNil))))))) (gN 8) w_law_1) E δ := rfl
def w_law_s2 : DTS := (wSeq (wSet 7 (mE (wOp pAddB (wVar 7) (wOfL (wLst (wCons (wC (.str "2x2 3 1")) (wCons (wC (.str "2 3 4 5 6")) (wCons (wC (.str "2 3x1")) (wCons (wC (.str "2x2  3x3")) (wCons (wC (.str " 2")) (wCons (wC (.str "2x2 3x")) (wCons (wC (.str "2x2 3x3x3")) (wCons (wC (.str "2x2\n3x3")) (wCons (wC (.str "")) wNil)))))))))))))) w_law_s1)
@[simp ↓] theorem w_law_s2_ap (E : DEnds) (δ : DS) : w_law_s2 E δ = (wSeq (wSet 7 (mE (wOp pAddB (wVar 7) (wOfL (wLst (wCons (wC (.str "2x2 3 1")) (wCons (wC (.str "2 3 4 5 6")) (wCons (wC (.str "2 3x1")) (wCons (wC (.str "2x2  3x3")) (wCons (wC (.str " 2")) (wCons (wC (.str "2x2 3x")) (wCons (wC (.str "2x2 3x3x3")) (wCons (wC (.str "2x2\n3x3")) (wCons (wC (.str "")) wNil)))))))))))))) w_law_s1) E δ := rfl
def w_law_s3 : DTS := (wSeq (wSet 7 (mE (wOfL (wLst (wCons (wVar 4) (wCons (wVar 6) (wCons (wCall [true, false] sp_Lspoilt (wCons (wVar 1) (wCons (wVar 6) wNil))) (wCons (wCall [true, false] sp_Lspoilt (wCons (wVar 1) (wCons (wVar 4) wNil))) (wCons (wOp pAddB (wOp pAddB (wVar 4) (wC (.str " "))) (wVar 4)) (wCons (wSl pSl (wVar 4) wNoP (wPart (wUn pNeg (wC (.int 1))))) (wCons (wOp pAddB (wVar 4) (wC (.str " "))) wNil))))))))))) w_law_s2)
@[simp ↓] theorem w_law_s3_ap (E : DEnds) (δ : DS) : w_law_s3 E δ = (wSeq (wSet 7 (mE (wOfL (wLst (wCons (wVar 4) (wCons (wVar 6) (wCons (wCall [true, false] sp_Lspoilt (wCons (wVar 1) (wCons (wVar 6) wNil))) (wCons (wCall [true, false] sp_Lspoilt (wCons (wVar 1) (wCons (wVar 4) wNil))) (wCons (wOp pAddB (wOp pAddB (wVar 4) (wC (.str " "))) (wVar 4)) (wCons (wSl pSl (wVar 4) wNoP (wPart (wUn pNeg (wC (.int 1))))) (wCons (wOp pAddB (wVar 4) (wC (.str " "))) wNil))))))))))) w_law_s2) E δ := rfl
def w_law_s4 : DTS := (wSeq (wSet 6 (mE (wCall [true, false] sp_Lspoilt (wCons (wVar 1) (wCons (wVar 4) wNil))))) w_law_s3)
@[simp ↓] theorem w_law_s4_ap (E : DEnds) (δ : DS) : w_law_s4 E δ = (wSeq (wSet 6 (mE (wCall [true, false] sp_Lspoilt (wCons (wVar 1) (wCons (wVar 4) wNil))))) w_law_s3) E δ := rfl
def w_law_s5 : DTS := (wSeq (wSet 4 (mE (wCall [] sp_kinds_text (wCons (wFn pTupOf (wCons (wOfL (wComp (iRange1 (wCons (wOp pAddB (wC (.int 1)) (wCall [true, false] sp_Ldraw (wCons (wVar 1) (wCons (wC (.int 4)) wNil)))) wNil)) (gN 5) tT (wCall [true, false] sp_Lwide (wCons (wVar 1) (wCons (wVar 3) wNil))) [5])) wNil)) wNil)))) w_law_s4)
@[simp ↓] theorem w_law_s5_ap (E : DEnds) (δ : DS) : w_law_s5 E δ = (wSeq (wSet 4 (mE (wCall [] sp_kinds_text (wCons (wFn pTupOf (wCons (wOfL (wComp (iRange1 (wCons (wOp pAddB (wC (.int 1)) (wCall [true, false] sp_Ldraw (wCons (wVar 1) (wCons (wC (.int 4)) wNil)))) wNil)) (gN 5) tT (wCall [true, false] sp_Lwide (wCons (wVar 1) (wCons (wVar 3) wNil))) [5])) wNil)) wNil)))) w_law_s4) E δ := rfl
def w_law_2 : DTS := (wSeq (wSet 3 (mE (wOp pAddB (wC (.int 1)) (wCall [true, false] sp_Ldraw (wCons (wVar 1) (wCons (wC (.int 3)) wNil)))))) w_law_s5)
def w_law_s6 : DTS := (wSeq (wFor (iRange1 (wCons (wC (.int 10)) wNil)) (gN 2) w_law_2) (wRet (wC (.bool true))))
@[simp ↓] theorem w_law_s6_ap (E : DEnds) (δ : DS) : w_law_s6 E δ = (wSeq (wFor (iRange1 (wCons (wC (.int 10)) wNil)) (gN 2) w_law_2) (wRet (wC (.bool true)))) E δ := rfl
def w_law : DTS := (wSeq (wSet 1 (wCallM [true] sp_Ldeck (wCons (wVar 0) wNil))) w_law_s6)
theorem ln_Lis_group : ∀ cs R, sp_Lis_group cs R → cs.length = 3 := by
  intro cs R h
  unfold sp_Lis_group at h
  repeat (obtain ⟨_, h⟩ := h)
  subst_vars; rfl
theorem ln_Lis_text : ∀ cs R, sp_Lis_text cs R → cs.length = 2 := by
  intro cs R h
  unfold sp_Lis_text at h
  repeat (obtain ⟨_, h⟩ := h)
  subst_vars; rfl
theorem ln_Ldue : ∀ cs R, sp_Ldue cs R → cs.length = 1 := by
  intro cs R h
  unfold sp_Ldue at h
  repeat (obtain ⟨_, h⟩ := h)
  subst_vars; rfl
theorem ln_Ltold : ∀ cs R, sp_Ltold cs R → cs.length = 1 := by
  intro cs R h
  unfold sp_Ltold at h
  repeat (obtain ⟨_, h⟩ := h)
  subst_vars; rfl
theorem ln_Lspoilt : ∀ cs R, sp_Lspoilt cs R → cs.length = 2 := by
  intro cs R h
  unfold sp_Lspoilt at h
  repeat (obtain ⟨_, h⟩ := h)
  subst_vars; rfl
theorem ln_law : ∀ cs R, sp_law cs R → cs.length = 1 := by
  intro cs R h
  unfold sp_law at h
  repeat (obtain ⟨_, h⟩ := h)
  subst_vars; rfl
end K06
set_option Elab.async false
set_option linter.all false
set_option maxRecDepth 100000
set_option maxHeartbeats 4000000
namespace K06
open PySem PySem.Spec PyProof.Rows L2 DL TW
open PySem.NumText
theorem shp_tS {ds : List (List Nat)} {W : List (List Nat)} (h : ∀ w ∈ ds, SOk 2000 w) (hW : ∀ w ∈ W, w ∈ ds) (n : W.length ≤ 2001) : SeqAt.shaped (.list (W.map tS)) = true :=
  (Shp.list (ShpL.map (k := 2001) (fun w hm => (h w (hW w hm)).shp) n)).shaped
theorem ite_same {p : Prop} [Decidable p] {P : Prop} (h : P) : if p then P else P := by split <;> exact h
theorem rd_Lis_group : ∀ cs R, sp_Lis_group cs R → w_Lis_group (endsOf cs R) (start0 5 cs) := by
  rintro _ R ⟨L, ax, b, rfl, hL, hax, hR⟩
  have hL2 := hL.l
  have hw := hL.word (c := 120)
  have hn := spA_cnt (c := 120) L []
  obtain ⟨ds, x, hs⟩ : ∃ ds x, spl 120 L = ds ++ [x] := ⟨_, _, (List.dropLast_concat_getLast (spA_ne 120 L [])).symm⟩
  have hn : (ds ++ [x]).length ≤ L.length + 1 := by rw [← hs]; exact hn
  have hl : (ds ++ [x]).length = ds.length + 1 := by simp
  rw [groupB] at hR
  rw [hs] at hw hR
  have ht : ∀ k, textB k (ds ++ [x]) b = (decide (ds.length + 1 ≤ k) && ds.all goodB && numB x b) := fun k => by simp [textB]
  rw [ht, hl] at hR
  simp -implicitDefEqProofs -dsimp [w_Lis_group, tS, len_S, -w_Lis_group_s1_ap]
  refine ⟨by omega, ?_⟩
  rw [split_x, hs]
  generalize hW : ds.filter (fun w => !decide (goodB w = true)) = W
  have sh : SeqAt.shaped (.list (W.map tS)) = true := shp_tS (ds := ds) (fun w hm => hw w (by simp [hm])) (fun w hm => by rw [← hW] at hm; exact (List.mem_filter.mp hm).1) (by rw [← hW]; exact Nat.le_trans (List.length_filter_le _ _) (by omega))
  have wn : W = [] ↔ ds.all goodB = true := by
    rw [← hW, List.filter_eq_nil_iff, List.all_eq_true]
    exact ⟨fun h a m => by have := h a m; simpa using this, fun h a m => by simpa using h a m⟩
  have wb : W ≠ [] → ds.all goodB = false := fun hn => by
    cases h : ds.all goodB with
    | false => rfl
    | true => exact absurd (wn.mpr h) hn
  have ox := hw x (by simp)
  have cut : DL.cutD (ds.map tS ++ [tS x]) none (some (-1)) = ds.map tS := cut_m1 _ _
  have step : ∀ (w : List Nat), w ∈ ds → ∀ (acc : List PyData) (K : List PyData → DS → Prop) (δ : DS), K (acc ++ (if goodB w = true then none else some (tS w)).toList) δ → (if (!goodB w) = true then K (acc ++ [tS w]) δ else K acc δ) := fun w _ acc K δ hK => by
    by_cases g : goodB w = true
    · rw [if_pos g] at hK
      rw [g]
      simpa using hK
    · rw [if_neg g] at hK
      rw [show goodB w = false by simpa using g]
      exact hK
  cases ax with
  | none =>
    simp -implicitDefEqProofs -dsimp [w_Lis_group_s1, axD, isNone]
    by_cases h4 : 4 < ds.length + 1
    · rw [if_pos (by omega)]
      rw [show decide (ds.length + 1 ≤ limA none) = false by simp [limA]; omega] at hR
      exact hR
    · rw [if_neg (by omega)]
      rw [show decide (ds.length + 1 ≤ limA none) = true by simp [limA]; omega] at hR
      refine com_map ds tS cut (fun w => if goodB w = true then none else some (tS w)) (fun w hm acc K hK => ?_) ?_
      · (try simp -implicitDefEqProofs -dsimp)
        have o := hw w (by simp [hm])
        refine ask_of (sp := sp_Lis_number) ⟨w, true, rfl, Nat.le_trans o.l (by omega), o.s, ?_⟩
        have e : numB w true = goodB w := by simp [numB]
        rw [e]
        (try simp -implicitDefEqProofs -dsimp)
        have := step w hm acc K _ hK
        by_cases g : goodB w = true
        · rw [g] at this ⊢
          exact this
        · rw [show goodB w = false by simpa using g] at this ⊢
          exact this
      · rw [fm_filter, hW]
        (try simp -implicitDefEqProofs -dsimp)
        refine ⟨sh, rfl, ?_⟩
        simp only [TW.eqv_nil, List.map_eq_nil_iff]
        by_cases hn : W = []
        · rw [if_pos hn]
          rw [wn.mp hn] at hR
          simp -implicitDefEqProofs -dsimp [w_Lis_group_t2, w_Lis_group_t1, axD, isNone]
          simp only [fitA, Bool.true_and, Bool.and_true] at hR
          refine ask_of (sp := sp_Lis_number) ⟨x, b, rfl, Nat.le_trans ox.l (by omega), ox.s, ?_⟩
          (try simp -implicitDefEqProofs -dsimp)
          exact hR
        · rw [if_neg hn]
          rw [wb hn] at hR
          exact hR
  | some a =>
    have := hax a rfl
    simp -implicitDefEqProofs -dsimp [w_Lis_group_s1, axD, isNone]
    by_cases h4 : limA (some a) < ds.length + 1
    · rw [if_pos (by simp only [limA] at h4; split <;> omega)]
      rw [show decide (ds.length + 1 ≤ limA (some a)) = false by simp only [decide_eq_false_iff_not]; omega] at hR
      exact hR
    · rw [if_neg (by simp only [limA] at h4; split <;> omega)]
      rw [show decide (ds.length + 1 ≤ limA (some a)) = true by simp only [decide_eq_true_eq]; omega] at hR
      refine com_map ds tS cut (fun w => if goodB w = true then none else some (tS w)) (fun w hm acc K hK => ?_) ?_
      · (try simp -implicitDefEqProofs -dsimp)
        have o := hw w (by simp [hm])
        refine ask_of (sp := sp_Lis_number) ⟨w, true, rfl, Nat.le_trans o.l (by omega), o.s, ?_⟩
        have e : numB w true = goodB w := by simp [numB]
        rw [e]
        (try simp -implicitDefEqProofs -dsimp)
        have := step w hm acc K _ hK
        by_cases g : goodB w = true
        · rw [g] at this ⊢
          exact this
        · rw [show goodB w = false by simpa using g] at this ⊢
          exact this
      · rw [fm_filter, hW]
        (try simp -implicitDefEqProofs -dsimp)
        refine ⟨sh, rfl, ?_⟩
        simp only [TW.eqv_nil, List.map_eq_nil_iff]
        by_cases hn : W = []
        · rw [if_pos hn]
          rw [wn.mp hn] at hR
          simp -implicitDefEqProofs -dsimp [w_Lis_group_t2, w_Lis_group_t1, axD, isNone]
          simp only [fitA, Bool.true_and] at hR
          by_cases hb : b = true
          · rw [if_pos hb]
            by_cases hd : ds.length + 1 = a
            · rw [if_pos (by omega)]
              rw [show decide (ds.length + 1 = a) = true by simpa using hd] at hR
              refine ask_of (sp := sp_Lis_number) ⟨x, b, rfl, Nat.le_trans ox.l (by omega), ox.s, ?_⟩
              (try simp -implicitDefEqProofs -dsimp)
              simp only [Bool.or_true, Bool.and_true, Bool.true_and] at hR
              exact hR
            · rw [if_neg (by omega)]
              rw [show decide (ds.length + 1 = a) = false by simpa using hd, hb] at hR
              simp only [Bool.not_true, Bool.false_or, Bool.and_false] at hR
              rw [hb]
              exact hR
          · rw [if_neg hb]
            refine ask_of (sp := sp_Lis_number) ⟨x, b, rfl, Nat.le_trans ox.l (by omega), ox.s, ?_⟩
            (try simp -implicitDefEqProofs -dsimp)
            rw [show b = false by simpa using hb] at hR ⊢
            simp only [Bool.not_false, Bool.true_or, Bool.and_true, Bool.true_and] at hR
            exact hR
        · rw [if_neg hn]
          rw [wb hn] at hR
          exact hR
theorem rd_Lis_text : ∀ cs R, sp_Lis_text cs R → w_Lis_text (endsOf cs R) (start0 5 cs) := by
  rintro _ R ⟨L, b, rfl, hL, hR⟩
  have hL2 := hL.l
  have hw := hL.word (c := 32)
  have hn := spA_cnt (c := 32) L []
  obtain ⟨ds, x, hs⟩ : ∃ ds x, spl 32 L = ds ++ [x] := ⟨_, _, (List.dropLast_concat_getLast (spA_ne 32 L [])).symm⟩
  have hn : (ds ++ [x]).length ≤ L.length + 1 := by rw [← hs]; exact hn
  have hl : (ds ++ [x]).length = ds.length + 1 := by simp
  rw [hs] at hw hR
  simp -implicitDefEqProofs -dsimp [w_Lis_text, tS, len_S, -w_Lis_text_s2_ap]
  refine ⟨by omega, ?_⟩
  rw [split_b, hs]
  have rest : ∀ ax, axesOf (ds ++ [x]) = ax → (∀ a, ax = some a → a ≤ 10000) → w_Lis_text_s1 (endsOf [.d (tS L), .d (.bool b)] R) [.d (tS L), .d (.bool b), .d (.list ((ds ++ [x]).map tS)), .d (axD ax), .em] := fun ax hax ha => by
    have hk : kindsB (ds ++ [x]) b = (decide (ds.length + 1 ≤ 4) && ds.all (fun g => groupB ax g true) && groupB ax x b) := by
      rw [kindsB, hax, rowB]
      simp
    rw [hk] at hR
    simp -implicitDefEqProofs -dsimp [w_Lis_text_s1]
    by_cases h4 : 4 < ds.length + 1
    · rw [if_pos (by omega)]
      rw [show decide (ds.length + 1 ≤ 4) = false by simp; omega] at hR
      exact hR
    · rw [if_neg (by omega)]
      rw [show decide (ds.length + 1 ≤ 4) = true by simp; omega] at hR
      generalize hW : ds.filter (fun w => !decide (groupB ax w true = true)) = W
      have sh : SeqAt.shaped (.list (W.map tS)) = true := shp_tS (ds := ds) (fun w hm => hw w (by simp [hm])) (fun w hm => by rw [← hW] at hm; exact (List.mem_filter.mp hm).1) (by rw [← hW]; exact Nat.le_trans (List.length_filter_le _ _) (by omega))
      have wn : W = [] ↔ ds.all (fun g => groupB ax g true) = true := by
        rw [← hW, List.filter_eq_nil_iff, List.all_eq_true]
        exact ⟨fun h a m => by have := h a m; simpa using this, fun h a m => by simpa using h a m⟩
      have cut : DL.cutD (ds.map tS ++ [tS x]) none (some (-1)) = ds.map tS := cut_m1 _ _
      refine com_map ds tS cut (fun w => if groupB ax w true = true then none else some (tS w)) (fun w hm acc K hK => ?_) ?_
      · (try simp -implicitDefEqProofs -dsimp)
        refine ask_of (sp := sp_Lis_group) ⟨w, ax, true, rfl, hw w (by simp [hm]), ha, ?_⟩
        (try simp -implicitDefEqProofs -dsimp)
        by_cases g : groupB ax w true = true
        · rw [if_pos g] at hK
          rw [g]
          simpa using hK
        · rw [if_neg g] at hK
          rw [show groupB ax w true = false by simpa using g]
          exact hK
      · rw [fm_filter, hW]
        (try simp -implicitDefEqProofs -dsimp)
        refine ⟨sh, rfl, ?_⟩
        simp only [TW.eqv_nil, List.map_eq_nil_iff]
        by_cases hn : W = []
        · rw [if_pos hn]
          rw [wn.mp hn] at hR
          simp -implicitDefEqProofs -dsimp [w_Lis_text_t1]
          refine ask_of (sp := sp_Lis_group) ⟨x, ax, b, rfl, hw x (by simp), ha, ?_⟩
          (try simp -implicitDefEqProofs -dsimp)
          exact hR
        · rw [if_neg hn]
          have wb : ds.all (fun g => groupB ax g true) = false := by
            cases h : ds.all (fun g => groupB ax g true) with
            | false => rfl
            | true => exact absurd (wn.mpr h) hn
          rw [wb] at hR
          exact hR
  cases ds with
  | nil =>
    simp -implicitDefEqProofs -dsimp [w_Lis_text_s2, -w_Lis_text_s1_ap]
    exact rest none rfl (fun a e => by cases e)
  | cons d0 ds =>
    have o0 := hw d0 (by simp)
    have n0 := spA_cnt (c := 120) d0 []
    have l0 := o0.l
    simp -implicitDefEqProofs -dsimp [w_Lis_text_s2, tS, len_S, -w_Lis_text_s1_ap]
    rw [if_pos (by omega)]
    refine ⟨by omega, ?_⟩
    rw [split_n]
    have := rest (some (spl 120 d0).length) (by simp [axesOf]) (fun a e => by cases e; exact Nat.le_trans n0 (by omega))
    rw [List.map_append] at this
    exact this
theorem kinds_good {gs : List (List Nat)} (h : kindsB gs true = true) : ∀ g ∈ gs, ∀ w ∈ spl 120 g, goodB w = true := by
  intro g hg
  suffices hh : ∃ ax, groupB ax g true = true by
    obtain ⟨ax, z⟩ := hh
    simp only [groupB, Bool.and_eq_true] at z
    exact ok_good z.1
  simp only [kindsB, rowB, Bool.and_eq_true, List.all_eq_true] at h
  obtain ⟨⟨_, h1⟩, h2⟩ := h
  rcases List.eq_nil_or_concat gs with rfl | ⟨ds, x, rfl⟩
  · simp at hg
  · rw [List.concat_eq_append] at *
    rcases List.mem_append.mp hg with m | m
    · exact ⟨_, h1 g (by simpa using m)⟩
    · rw [List.mem_singleton.mp m]
      exact ⟨_, by simpa using h2⟩
theorem rd_Ldue : ∀ cs R, sp_Ldue cs R → w_Ldue (endsOf cs R) (start0 5 cs) := by
  rintro _ R ⟨v, rfl, hv, hR⟩
  simp -implicitDefEqProofs -dsimp [w_Ldue]
  by_cases h : isTy "str" v = true
  · rw [if_pos h]
    obtain ⟨z, rfl⟩ : ∃ z, v = .str z := by cases v <;> first | exact ⟨_, rfl⟩ | exact absurd h (by simp [isTy, tyName])
    obtain ⟨⟨L⟩⟩ := z
    have hL : SOk 1500 L := hv _ rfl
    have hL2 := hL.l
    simp -implicitDefEqProofs -dsimp [w_Ldue_t2]
    refine ask_of (sp := sp_Lis_text) ⟨L, true, rfl, ⟨Nat.le_trans hL.l (by omega), hL.s⟩, ?_⟩
    (try simp -implicitDefEqProofs -dsimp)
    have hR' : R (match readK L with | some kss => .list [.str "ok", .tuple (kss.map tI)] | none => .list [.str "bad", posD (badK L)]) [.d (tS L)] := hR
    cases hr : readK L with
    | some kss =>
      obtain ⟨h1, h2, h3, h4, h5⟩ := readK_ok hr
      rw [hr] at hR'
      rw [if_pos h1]
      simp -implicitDefEqProofs -dsimp [w_Ldue_1, len_S]
      refine ⟨by omega, ?_⟩
      rw [split_b]
      refine com_map (spl 32 L) tS rfl (fun g => some (tI (valG g))) (fun g hg acc K hK => ?_) ?_
      · have og := hL.word g hg
        have gg := kinds_good h1 g hg
        simp -implicitDefEqProofs -dsimp [tS, len_S]
        refine ⟨by have := og.l; omega, ?_⟩
        rw [split_x]
        refine com_map (spl 120 g) tS rfl (fun w => some (.int (digitsVal w : Int))) (fun w hm acc' K' hK' => ?_) ?_
        · have g := gg w hm
          have o := og.word w hm
          have := intText_digits (x := ⟨w.toArray⟩) (goodB_iff.mp g).1 (goodB_ne g) (by rw [len_S]; exact Nat.le_trans o.l (by omega))
          simp -implicitDefEqProofs -dsimp [tS]
          refine ⟨_, this, by have := good_len g; rw [len_S]; omega, hK'⟩
        · have e : (spl 120 g).filterMap (fun w => some (PyData.int (digitsVal w : Int))) = lI (valG g) := by simp [lI, valG, Function.comp_def]
          rw [e]
          (try simp -implicitDefEqProofs -dsimp)
          exact hK
      · have e : (spl 32 L).filterMap (fun g => some (tI (valG g))) = kss.map tI := by
          rw [← h2]
          simp [Function.comp_def]
        rw [e]
        (try simp -implicitDefEqProofs -dsimp)
        exact hR'
    | none =>
      obtain ⟨h1, h2⟩ := readK_bad hr
      rw [hr] at hR'
      rw [if_neg (by rw [h1]; simp)]
      simp -implicitDefEqProofs -dsimp [w_Ldue_t1, len_S]
      refine ⟨by omega, by omega, com_map (List.range L.length) (fun (k : Nat) => .int (k : Int)) (nums0 _) (fun k => if kindsB (spl 32 (L.take (k + 1))) false = true then none else some (.int (k : Int))) (fun k hk acc K hK => ?_) ?_⟩
      · (try simp -implicitDefEqProofs -dsimp)
        rw [cut_S]
        refine ⟨by rw [show (⟨⟨L⟩⟩ : Str).length = L.length from len_S]; omega, ask_of (sp := sp_Lis_text) ⟨L.take (k + 1), false, rfl, ⟨by rw [List.length_take]; omega, fun c hc => hL.s c (List.mem_of_mem_take hc)⟩, ?_⟩⟩
        (try simp -implicitDefEqProofs -dsimp)
        by_cases g : kindsB (spl 32 (L.take (k + 1))) false = true
        · rw [if_pos g] at hK
          rw [g]
          simpa using hK
        · rw [if_neg g] at hK
          rw [show kindsB (spl 32 (L.take (k + 1))) false = false by simpa using g]
          exact hK
      · rw [fm_filter]
        have f1 : ((List.range L.length).filter fun k => !decide (kindsB (spl 32 (L.take (k + 1))) false = true)) = (List.range L.length).filter fun k => !kindsB (spl 32 (L.take (k + 1))) false := by
          congr 1
          funext k
          cases kindsB (spl 32 (L.take (k + 1))) false <;> rfl
        rw [f1]
        have lW := List.length_filter_le (fun k => !kindsB (spl 32 (L.take (k + 1))) false) (List.range L.length)
        rw [List.length_range] at lW
        simp -implicitDefEqProofs -dsimp [w_Ldue_s1]
        generalize (List.range L.length).filter (fun k => !kindsB (spl 32 (L.take (k + 1))) false) = W at *
        refine ⟨by rw [show (⟨⟨L⟩⟩ : Str).length = L.length from len_S]; omega, by omega, ?_⟩
        have e : (W.map (fun (k : Nat) => PyData.int (k : Int)) ++ [PyData.int ((⟨⟨L⟩⟩ : Str).length : Int)])[0]? = some (posD (badK L)) := by
          have e1 : W.map (fun (k : Nat) => PyData.int (k : Int)) ++ [PyData.int ((⟨⟨L⟩⟩ : Str).length : Int)] = (W ++ [L.length]).map posD := by
            rw [List.map_append, show (⟨⟨L⟩⟩ : Str).length = L.length from len_S]
            rfl
          rw [e1, List.getElem?_map, ← List.head?_eq_getElem?, h2]
          rfl
        rw [(List.getElem?_eq_some_iff.mp e).2]
        exact hR'
  · rw [if_neg h]
    simp -implicitDefEqProofs -dsimp [w_Ldue_3]
    have e : dueD v = .list [.str "bad", .none] := by cases v <;> first | rfl | exact absurd (by simp [isTy, tyName]) h
    rw [e] at hR
    exact hR
theorem rd_Ltold : ∀ cs R, sp_Ltold cs R → w_Ltold (endsOf cs R) (start0 3 cs) := by
  rintro _ R ⟨v, rfl, hv, hR⟩
  have hv' : okS v := fun z e => by
    have := (hv z e).l
    have e2 : z.cps.toList.length = z.length := by simp [Str.length]
    omega
  simp -implicitDefEqProofs -dsimp [w_Ltold, w_Ltold_1]
  refine ask_of (sp := sp_parse_kindsX) ⟨v, rfl, hv', ?_⟩
  unfold dueD at hR
  unfold parseKD
  cases v with
  | str z =>
    simp only at hR ⊢
    cases hr : readK z.cps.toList with
    | some ns =>
      rw [hr] at hR
      (try simp -implicitDefEqProofs -dsimp)
      exact hR
    | none =>
      rw [hr] at hR
      simp -implicitDefEqProofs -dsimp [badD]
      exact hR
  | _ =>
    simp -implicitDefEqProofs -dsimp [badD]
    exact hR
def signs06 : List String := ["0", "1", "9", "x", " ", "-", "x1", "", "  ", ".", " 1", "\n", "1x1", "000000000000"]
theorem signs06_ok : ∀ s ∈ signs06, ZOk 12 (Str.ofString s) := by
  have h : (signs06.all fun s => decide ((Str.ofString s).cps.toList.length ≤ 12) && (Str.ofString s).cps.toList.all fun c => decide (c < 1000)) = true := by decide +kernel
  intro s hs
  have := List.all_eq_true.mp h s hs
  simp only [Bool.and_eq_true, decide_eq_true_eq, List.all_eq_true] at this
  exact ⟨this.1, this.2⟩
theorem rd_Lspoilt : ∀ cs R, sp_Lspoilt cs R → w_Lspoilt (endsOf cs R) (start0 5 cs) := by
  rintro _ R ⟨a1, a2, a3, L, rfl, hL, hR⟩
  have hL2 := hL.l
  simp -implicitDefEqProofs -dsimp [w_Lspoilt, tS, len_S]
  refine ⟨by omega, ask_draw (by omega) (by omega) fun r r0 r1 => ?_⟩
  (try simp -implicitDefEqProofs -dsimp)
  refine ask_draw (by omega) (by omega) fun q q0 q1 => ?_
  simp -implicitDefEqProofs -dsimp [w_Lspoilt_s2]
  rw [show ([PyData.str (Str.ofString "0"), PyData.str (Str.ofString "1"), PyData.str (Str.ofString "9"),
            PyData.str (Str.ofString "x"), PyData.str (Str.ofString " "), PyData.str (Str.ofString "-"),
            PyData.str (Str.ofString "x1"), PyData.str (Str.ofString ""), PyData.str (Str.ofString "  "),
            PyData.str (Str.ofString "."), PyData.str (Str.ofString " 1"), PyData.str (Str.ofString "\n"),
            PyData.str (Str.ofString "1x1"), PyData.str (Str.ofString "000000000000")] : List PyData) = signs06.map fun s => .str (Str.ofString s) from rfl]
  refine ask_of ⟨a1, a2, a3, _, _, rfl, rfl, by simp [signs06], by simp [signs06], fun y hy => ?_⟩
  obtain ⟨t, ht, rfl⟩ := List.mem_map.mp hy
  have hS := signs06_ok t ht
  generalize Str.ofString t = z at hS
  have hZ : ∀ z', ZOk (2 * L.length + 12) z' → R (.str z') [.dk a1 a2 a3, .d (tS L)] := fun z' h => hR z'.cps.toList h
  have zl := hS.len
  have zL : ZOk L.length ⟨L.toArray⟩ := ⟨Nat.le_refl _, hL.s⟩
  have c1 := zL.cut none (some r)
  have c2 := zL.cut (some r) none
  have c3 := zL.cut (some (r + 1)) none
  have d1 := c1.len
  have d2 := c2.len
  have d3 := c3.len
  have d4 := (c1.app hS).len
  simp -implicitDefEqProofs -dsimp [w_Lspoilt_s1, tS, len_S]
  refine ⟨by omega, by omega, by omega, by omega, by omega, by omega, by omega, by omega, by omega, by omega, ?_⟩
  obtain rfl | rfl | rfl | rfl : q = 0 ∨ q = 1 ∨ q = 2 ∨ q = 3 := by omega
  · (try simp -implicitDefEqProofs -dsimp)
    exact hZ _ (((c1.app hS).app c2).le (by omega))
  · (try simp -implicitDefEqProofs -dsimp)
    exact hZ _ (((c1.app hS).app c3).le (by omega))
  · (try simp -implicitDefEqProofs -dsimp)
    exact hZ _ (c1.le (by omega))
  · (try simp -implicitDefEqProofs -dsimp)
    exact hZ _ ((zL.app hS).le (by omega))
def KOk (kss : List (List Int)) : Prop := ∃ m : Nat, 0 < m ∧ m ≤ 4 ∧ 0 < kss.length ∧ kss.length ≤ 4 ∧ ∀ ns ∈ kss, ns.length = m ∧ ∀ n ∈ ns, NumOk n
theorem kx_le {kss : List (List Int)} : ∀ c ∈ kx kss, c ≤ 120 := fun c h => by
  rcases glue_mem h with rfl | ⟨l, m, k⟩
  · omega
  · obtain ⟨ns, _, rfl⟩ := List.mem_map.mp m
    exact sx_le c k
theorem KOk.len {kss : List (List Int)} (h : KOk kss) : (kx kss).length ≤ 300 := by
  obtain ⟨m, m0, m4, k0, k4, hb⟩ := h
  have := glue_len (c := 32) (B := 56) (ls := kss.map sx) fun l ml => by
    obtain ⟨ns, hm, rfl⟩ := List.mem_map.mp ml
    have := sx_len (hb ns hm).2
    have := (hb ns hm).1
    omega
  rw [List.length_map] at this
  exact Nat.le_trans this (by omega)
theorem shp_num {ns : List Int} (l : ns.length ≤ 4) (h : ∀ n ∈ ns, NumOk n) : Shp false 1 208 (tI ns) :=
  Shp.tuple (shp_ints (k := 40) l (fun x hx => Nat.le_of_lt_succ (log_abs (B := 41) (by decide) (by have := (h x hx).1; omega) (by have := (h x hx).2; omega))))
theorem due_shp (v : PyData) (h : vOk 1500 v) : Shp false 3 3000 (dueD v) := by
  have s1 : ∀ {t : Str} {x : PyData}, ZOk 40 t → Shp false 2 1000 x → Shp false 3 3000 (.list [.str t, x]) := fun ht hx => by
    have h0 : Shp false 2 402 (.str _) := (Shp.text (k := 40) (strOkZ ht) ht.len)
    exact (Shp.list (n := 2) (ShpL.cons h0 (ShpL.cons hx ShpL.nil))).mono (by omega) (by omega)
  have ok : ZOk 40 (Str.ofString "ok") := sOk_of (by decide +kernel)
  have bad : ZOk 40 (Str.ofString "bad") := sOk_of (by decide +kernel)
  unfold dueD
  cases v with
  | str z =>
    have hz := h z rfl
    simp only
    cases e : readK z.cps.toList with
    | some kss =>
      obtain ⟨h1, h2, h3, h4, h5⟩ := readK_ok e
      exact s1 ok ((Shp.tuple (n := 1) (ShpL.map (k := 4) (fun ns hm => shp_num (h5 ns hm).2.1 (h5 ns hm).2.2) h4)).mono (by omega) (by omega))
    | none =>
      refine s1 bad ?_
      have : badK z.cps.toList ≤ 1500 := by have := hz.l; unfold badK; omega
      exact (Shp.int64 (n := 1) (by omega) (by omega)).mono (by omega) (by omega)
  | _ => exact s1 bad ((Shp.none (n := 1)).mono (by omega) (by omega))
def cZ : List Str := [Str.ofString "2x2 3 1", Str.ofString "2 3 4 5 6", Str.ofString "2 3x1", Str.ofString "2x2  3x3", Str.ofString " 2", Str.ofString "2x2 3x", Str.ofString "2x2 3x3x3", Str.ofString "2x2\n3x3", Str.ofString ""]
theorem c_ok : ∀ z ∈ cZ, ZOk 20 z := by
  have h : (cZ.all fun s => decide (s.cps.toList.length ≤ 20) && s.cps.toList.all fun c => decide (c < 1000)) = true := by decide +kernel
  intro s hs
  have := List.all_eq_true.mp h s hs
  simp only [Bool.and_eq_true, decide_eq_true_eq, List.all_eq_true] at this
  exact ⟨this.1, this.2⟩
theorem rd_law : ∀ cs R, sp_law cs R → w_law (endsOf cs R) (start0 9 cs) := by
  rintro _ R ⟨a, ns, rfl, hR⟩
  simp -implicitDefEqProofs -dsimp [w_law]
  refine ask_deck fun a1 a2 a3 => ?_
  simp -implicitDefEqProofs -dsimp [w_law_s6]
  refine for_cnt 0 10 (fun i δ => ∃ (c3 c4 c5 c6 c7 c8 c9 : Cell), δ = [.scr a ns, .dk a1 a2 a3, c3, c4, c5, c6, c7, c8, c9]) ⟨_, _, _, _, _, _, _, rfl⟩ ?_ ?_
  · rintro δ ⟨c3, c4, c5, c6, c7, c8, c9, rfl⟩
    (try simp -implicitDefEqProofs -dsimp)
    exact hR _
  · rintro i δ hi ⟨c3, c4, c5, c6, c7, c8, c9, rfl⟩ K B T hK
    simp -implicitDefEqProofs -dsimp [w_law_2]
    refine ask_draw (by omega) (by omega) fun r r0 r1 => ?_
    obtain ⟨m, hm, m0, m4⟩ : ∃ m : Nat, 1 + r = (m : Int) ∧ 1 ≤ m ∧ m ≤ 4 := ⟨(1 + r).toNat, by omega⟩
    simp -implicitDefEqProofs -dsimp [w_law_s5]
    rw [hm]
    refine ask_draw (by omega) (by omega) fun r' r0' r1' => ?_
    (try simp -implicitDefEqProofs -dsimp)
    refine ⟨by omega, by omega, ?_⟩
    refine com_ofP (α := List Int) (fun p => tI p) (fun p => p.length = m ∧ In (10 ^ 12) p) (fun δ => ∃ c6, δ = [.scr a ns, .dk a1 a2 a3, .d (.int (i : Int)), .d (.int (m : Int)), c5, c6, c7, c8, c9]) ⟨_, rfl⟩ (fun x hx acc δ K hδ hK => ?_) fun as δ la ha hδ => ?_
    · obtain ⟨c6', rfl⟩ := hδ
      (try simp -implicitDefEqProofs -dsimp)
      refine ask_of (sp := sp_Lwide) ⟨a1, a2, a3, _, rfl, by omega, by omega, fun p lp ip => ?_⟩
      (try simp -implicitDefEqProofs -dsimp)
      exact hK p _ ⟨by simpa using lp, ip⟩ ⟨_, rfl⟩
    · obtain ⟨c6', rfl⟩ := hδ
      have la' : as.length = (1 + r').toNat := by rw [la]; simp [nums]
      obtain ⟨b, bs, rfl⟩ : ∃ b bs, as = b :: bs := by cases as with | nil => simp at la'; omega | cons b bs => exact ⟨b, bs, rfl⟩
      have ok : KOk (b :: bs) := ⟨m, by omega, by omega, by simp, by omega, fun p hp => ha p hp⟩
      have fit : ∀ p ∈ b :: bs, p.length ≤ 8 ∧ ∀ n ∈ p, NumOk n := fun p hp => ⟨by have := (ha p hp).1; omega, (ha p hp).2⟩
      (try simp -implicitDefEqProofs -dsimp)
      refine ask_of (sp := sp_kinds_text) ⟨b :: bs, rfl, by omega, fit, ?_⟩
      simp -implicitDefEqProofs -dsimp [w_law_s4]
      have hx : SOk 300 (kx (b :: bs)) := ⟨ok.len, fun c hc => by have := kx_le c hc; omega⟩
      generalize kx (b :: bs) = tx at *
      have hx1 := hx.l
      refine ask_of (sp := sp_Lspoilt) ⟨a1, a2, a3, tx, rfl, ⟨Nat.le_trans hx.l (by omega), hx.s⟩, fun t1 h1 => ?_⟩
      have h1 : SOk 612 t1 := ⟨Nat.le_trans h1.l (by omega), h1.s⟩
      have h1l := h1.l
      simp -implicitDefEqProofs -dsimp [w_law_s3]
      refine ask_of (sp := sp_Lspoilt) ⟨a1, a2, a3, t1, rfl, ⟨Nat.le_trans h1.l (by omega), h1.s⟩, fun t2 h2 => ?_⟩
      have h2 : SOk 1300 t2 := ⟨Nat.le_trans h2.l (by omega), h2.s⟩
      (try simp -implicitDefEqProofs -dsimp)
      refine ask_of (sp := sp_Lspoilt) ⟨a1, a2, a3, tx, rfl, ⟨Nat.le_trans hx.l (by omega), hx.s⟩, fun t3 h3 => ?_⟩
      have h3 : SOk 1300 t3 := ⟨Nat.le_trans h3.l (by omega), h3.s⟩
      have zx : ZOk 300 ⟨tx.toArray⟩ := hx
      have x2 : ZOk 2 (Str.ofString " ") := sOk_of (by decide +kernel)
      have y2 := (zx.app x2).app zx
      have y3 := zx.cut none (some (-1))
      have y4 := zx.app x2
      have l0 := zx.len
      have l1 := y4.len
      have l2 := x2.len
      simp -implicitDefEqProofs -dsimp [tS, w_law_s2]
      refine ⟨by omega, by omega, by omega, by omega, ask_of (sp := sp_Lodd) ⟨a1, a2, a3, rfl, fun o ho => ?_⟩⟩
      have vo := odd_ok o ho
      have vs : ∀ {n : Nat} {z : Str}, ZOk n z → n ≤ 1500 → vOk 1500 (.str z) := fun h k z' e => by cases e; exact h.le k
      simp -implicitDefEqProofs -dsimp [w_law_s1]
      have h7 : ∀ v ∈ ([.str ⟨tx.toArray⟩, .str ⟨t1.toArray⟩, .str ⟨t2.toArray⟩, .str ⟨t3.toArray⟩, .str (⟨tx.toArray⟩ ++ Str.ofString " " ++ ⟨tx.toArray⟩), .str (cutS ⟨tx.toArray⟩ none (some (-1))), .str (⟨tx.toArray⟩ ++ Str.ofString " ")] : List PyData), vOk 1500 v := by
        intro v hv
        simp only [List.mem_cons, List.not_mem_nil, or_false] at hv
        rcases hv with rfl | rfl | rfl | rfl | rfl | rfl | rfl
        · exact vs zx (by omega)
        · exact vs (show ZOk 612 ⟨t1.toArray⟩ from h1) (by omega)
        · exact vs (show ZOk 1300 ⟨t2.toArray⟩ from h2) (by omega)
        · exact vs (show ZOk 1300 ⟨t3.toArray⟩ from h3) (by omega)
        · exact vs y2 (by omega)
        · exact vs y3 (by omega)
        · exact vs y4 (by omega)
      have h3' : ∀ v ∈ ([o, .none, .list [tS tx]] : List PyData), vOk 1500 v := by
        intro v hv
        simp only [List.mem_cons, List.not_mem_nil, or_false] at hv
        rcases hv with rfl | rfl | rfl
        · exact vo
        · intro z e; cases e
        · intro z e; cases e
      have h9 : ∀ v ∈ cZ.map PyData.str, vOk 1500 v := fun v hv => by
        obtain ⟨z, hz, rfl⟩ := List.mem_map.mp hv
        exact vs (c_ok z hz) (by omega)
      have hall : ∀ v ∈ ([.str ⟨tx.toArray⟩, .str ⟨t1.toArray⟩, .str ⟨t2.toArray⟩, .str ⟨t3.toArray⟩, .str (⟨tx.toArray⟩ ++ Str.ofString " " ++ ⟨tx.toArray⟩), .str (cutS ⟨tx.toArray⟩ none (some (-1))), .str (⟨tx.toArray⟩ ++ Str.ofString " ")] : List PyData) ++ cZ.map PyData.str ++ [o, .none, .list [tS tx]], vOk 1500 v := fun v hv => by
        rcases List.mem_append.mp hv with hv | hv
        · rcases List.mem_append.mp hv with hv | hv
          · exact h7 v hv
          · exact h9 v hv
        · exact h3' v hv
      generalize hvl : ([.str ⟨tx.toArray⟩, .str ⟨t1.toArray⟩, .str ⟨t2.toArray⟩, .str ⟨t3.toArray⟩, .str (⟨tx.toArray⟩ ++ Str.ofString " " ++ ⟨tx.toArray⟩), .str (cutS ⟨tx.toArray⟩ none (some (-1))), .str (⟨tx.toArray⟩ ++ Str.ofString " ")] : List PyData) ++ cZ.map PyData.str ++ [o, .none, .list [tS tx]] = vl at hall
      generalize Cell.d (tS tx) = c4'
      generalize Cell.d (tS t1) = c6''
      refine for_plain vl (fun v => v) (by rw [List.map_id', ← hvl]; rfl) (fun rest δ => (∀ v ∈ rest, vOk 1500 v) ∧ ∃ c7 c9, δ = [.scr a ns, .dk a1 a2 a3, .d (.int (i : Int)), .d (.int (m : Int)), c4', keepC c6, c6'', c7, c9]) ⟨hall, _, _, rfl⟩ ?_ ?_
      · rintro δ ⟨_, c7, c9, rfl⟩
        exact hK _ ⟨_, _, _, _, _, _, _, rfl⟩
      · rintro v rest δ ⟨hv, c7, c9, rfl⟩ K' B' T' hK'
        have vv := hv v (by simp)
        have sh := due_shp v vv
        simp -implicitDefEqProofs -dsimp [w_law_1]
        refine ask_of (sp := sp_Ltold) ⟨_, rfl, vv, ?_⟩
        (try simp -implicitDefEqProofs -dsimp)
        refine sh.repr (ask_of (sp := sp_Ldue) ⟨_, rfl, vv, ?_⟩)
        (try simp -implicitDefEqProofs -dsimp)
        refine sh.repr ?_
        exact hK' _ ⟨fun v' hv' => hv v' (by simp [hv']), _, _, rfl⟩
end K06
set_option Elab.async false
set_option linter.all false
set_option maxRecDepth 100000
set_option maxHeartbeats 4000000
namespace K06
open PySem PySem.Spec PyProof.Rows L2 DL TW
variable [DL.Tb]
def topS (i : Nat) : Stmt := PySem.Challenge.pw_twobricks_k06_texts_of_no_kinds.main.body.getD i (.Pass ⟨0, 0, 0, 0⟩)
abbrev s_Ldeck : Stmt := topS 13
theorem sc_Ldeck : FnScope ["_law_script", "_law_cells", "_law_cell"] ["_law_script"] (defScope s_Ldeck) := ⟨rfl, rfl, rfl, by decide +kernel, rfl, by decide +kernel, by decide +kernel⟩
abbrev s_Ldraw : Stmt := topS 14
theorem sc_Ldraw : FnScope ["_law_deck_here", "_law_many", "_law_rest", "_law_cell", "_law_mixed"] ["_law_deck_here", "_law_many"] (defScope s_Ldraw) := ⟨rfl, rfl, rfl, by decide +kernel, rfl, by decide +kernel, by decide +kernel⟩
abbrev s_Lone : Stmt := topS 15
theorem sc_Lone : FnScope ["_law_deck_here", "_law_items"] ["_law_deck_here", "_law_items"] (defScope s_Lone) := ⟨rfl, rfl, rfl, by decide +kernel, rfl, by decide +kernel, by decide +kernel⟩
abbrev s_Lodd : Stmt := topS 16
theorem sc_Lodd : FnScope ["_law_deck_here", "_law_some"] ["_law_deck_here"] (defScope s_Lodd) := ⟨rfl, rfl, rfl, by decide +kernel, rfl, by decide +kernel, by decide +kernel⟩
abbrev s_Lfar : Stmt := topS 17
theorem sc_Lfar : FnScope ["_law_deck_here"] ["_law_deck_here"] (defScope s_Lfar) := ⟨rfl, rfl, rfl, by decide +kernel, rfl, by decide +kernel, by decide +kernel⟩
abbrev s_Lwide : Stmt := topS 18
theorem sc_Lwide : FnScope ["_law_deck_here", "_law_axes", "_law_axis"] ["_law_deck_here", "_law_axes"] (defScope s_Lwide) := ⟨rfl, rfl, rfl, by decide +kernel, rfl, by decide +kernel, by decide +kernel⟩
abbrev s_Lsides_text : Stmt := topS 19
theorem sc_Lsides_text : FnScope ["_law_sides", "_law_side"] ["_law_sides"] (defScope s_Lsides_text) := ⟨rfl, rfl, rfl, by decide +kernel, rfl, by decide +kernel, by decide +kernel⟩
abbrev s_Lkinds_text : Stmt := topS 20
theorem sc_Lkinds_text : FnScope ["_law_kinds", "_law_sides"] ["_law_kinds"] (defScope s_Lkinds_text) := ⟨rfl, rfl, rfl, by decide +kernel, rfl, by decide +kernel, by decide +kernel⟩
abbrev s_Lis_number : Stmt := topS 21
theorem sc_Lis_number : FnScope ["_law_word", "_law_is_whole", "_law_sign"] ["_law_word", "_law_is_whole"] (defScope s_Lis_number) := ⟨rfl, rfl, rfl, by decide +kernel, rfl, by decide +kernel, by decide +kernel⟩
abbrev s_Lis_group : Stmt := topS 22
theorem sc_Lis_group : FnScope ["_law_group", "_law_axes", "_law_is_whole", "_law_words", "_law_word"] ["_law_group", "_law_axes", "_law_is_whole"] (defScope s_Lis_group) := ⟨rfl, rfl, rfl, by decide +kernel, rfl, by decide +kernel, by decide +kernel⟩
abbrev s_Lis_text : Stmt := topS 23
theorem sc_Lis_text : FnScope ["_law_value", "_law_is_whole", "_law_groups", "_law_axes", "_law_group"] ["_law_value", "_law_is_whole"] (defScope s_Lis_text) := ⟨rfl, rfl, rfl, by decide +kernel, rfl, by decide +kernel, by decide +kernel⟩
abbrev s_Ldue : Stmt := topS 24
theorem sc_Ldue : FnScope ["_law_value", "_law_word", "_law_group", "_law_wrong", "_law_k"] ["_law_value"] (defScope s_Ldue) := ⟨rfl, rfl, rfl, by decide +kernel, rfl, by decide +kernel, by decide +kernel⟩
abbrev s_number_at : Stmt := topS 8
theorem sc_number_at : FnScope ["text", "at", "number"] ["text", "at"] (defScope s_number_at) := ⟨rfl, rfl, rfl, by decide +kernel, rfl, by decide +kernel, by decide +kernel⟩
abbrev s_sides_at : Stmt := topS 9
theorem sc_sides_at : FnScope ["text", "at", "most", "number", "found"] ["text", "at", "most"] (defScope s_sides_at) := ⟨rfl, rfl, rfl, by decide +kernel, rfl, by decide +kernel, by decide +kernel⟩
abbrev s_require_text : Stmt := topS 10
theorem sc_require_text : FnScope ["value"] ["value"] (defScope s_require_text) := ⟨rfl, rfl, rfl, by decide +kernel, rfl, by decide +kernel, by decide +kernel⟩
abbrev s_parse_kinds : Stmt := topS 11
theorem sc_parse_kinds : FnScope ["value", "first", "at", "found", "sides"] ["value"] (defScope s_parse_kinds) := ⟨rfl, rfl, rfl, by decide +kernel, rfl, by decide +kernel, by decide +kernel⟩
abbrev s_Ltold : Stmt := topS 25
theorem sc_Ltold : FnScope ["_law_value", "_law_found", "error"] ["_law_value"] (defScope s_Ltold) := ⟨rfl, rfl, rfl, by decide +kernel, rfl, by decide +kernel, by decide +kernel⟩
abbrev s_Lspoilt : Stmt := topS 26
theorem sc_Lspoilt : FnScope ["_law_deck_here", "_law_text", "_law_at", "_law_way", "_law_sign"] ["_law_deck_here", "_law_text"] (defScope s_Lspoilt) := ⟨rfl, rfl, rfl, by decide +kernel, rfl, by decide +kernel, by decide +kernel⟩
abbrev s_law : Stmt := topS 27
theorem sc_law : FnScope ["_law_script", "_law_deck_here", "_law_turn", "_law_axes", "_law_text", "_law_k", "_law_one_here", "_law_some", "_law_value"] ["_law_script"] (defScope s_law) := ⟨rfl, rfl, rfl, by decide +kernel, rfl, by decide +kernel, by decide +kernel⟩
set_option maxHeartbeats 0 in
theorem ok_Ldeck {P : Program} {w : World} {K : PySem.W.Frag} {mg : Str → Option Value} {base : Heap} {f : Addr} {fd : FuncData} (F : Fun K "_law_deck" "_law_deck" s_Ldeck f fd) (z_abs : mg "abs" = none) (z_len : mg "len" = none) : FnG P w K mg base CX0 1 f fd ["_law_script"] (liftM K spDeck) := by
  have nd := sc_Ldeck.nd
  refine ok_deck F sc_Ldeck rfl rfl rfl (fun cdv A outer s H E hr => ?_) (fun cdv A outer s H E hr => ?_)
  · exact (js_setCL (i := 1) (own := [("_law_cell", 2)]) rfl nd rfl rfl (sw_true rfl rfl rfl (by decide +kernel)) (ji_seq (je_cut (jpv 0))) (blkOk_by (by kernel_rfl)) (by decide) (fun _ _ _ _ _ => (jgn 2 nd)) (fun _ _ _ _ _ => jts_nil) (fun _ _ _ _ _ => je_fn c_abs rfl z_abs boot_abs (ja_cons (jv 2) ja_nil)))
  · exact (jms_cons (jm_l (jl_comp (own := [("_law_cell", 2)]) rfl nd (ji_seq (jv 1)) (blkOk_by (by kernel_rfl)) (by decide) (fun _ _ _ _ _ => (jgn 2 nd)) (fun _ _ _ _ _ => jts_one (jt_cmp d_ge (jv 2) (je_op d_pow je_int je_int))) (fun _ _ _ _ _ => (jv 2))))
      (jms_cons (jm_l (jl_op d_addL (jv 1) (je_ofL (jl_lst (ja_cons (je_op d_add je_int (je_fn c_len rfl z_len boot_len (ja_cons (jv 1) ja_nil))) ja_nil))))) (jms_cons (jm_e je_int) jms_nil)))
set_option maxHeartbeats 0 in
theorem ok_Ldraw {P : Program} {w : World} {K : PySem.W.Frag} {mg : Str → Option Value} {base : Heap} {f : Addr} {fd : FuncData} (F : Fun K "_law_draw" "_law_draw" s_Ldraw f fd) (z_int : mg "int" = none) (z_len : mg "len" = none) : FnG P w K mg base CX0 1 f fd ["_law_deck_here", "_law_many"] (liftSp K spDraw) := by
  have nd := sc_Ldraw.nd
  refine ok_draw F sc_Ldraw rfl rfl fun cdv A outer s H E hr => ?_
  exact (jss_cons (js_if (jt_kne hr.u64 (jpv 0)) (jss_cons (jset 2 nd (jm_e (je_k00 (jpv 0)))) (jss_cons (js_put00 (jpv 0) (je_op d_div (jv 2) (jv 1)))
      (jss_cons (js_if (jt_cmp (d_eq hr.u64) (je_k00 (jpv 0)) je_int) (jss_one (js_pop0 (jpv 0) rfl (pe_bm PySem.F.plainAttrs_list PySem.F.slot_list_pop PySem.F.type_list_pop mt_popAt (pe_ix ix_list (jpv 0) pe_int (fun _ _ => rfl)) (pa_cons pe_int pa_nil)))) jss_nil)
      (jss_one (js_ret (je_op d_mod (je_ty c_int rfl z_int boot_int (ja_cons (jv 2) ja_nil)) (jv 1))))))) jss_nil)
    (jss_cons (js_put2 (jpv 0) (je_op d_add (je_k2 (jpv 0)) je_int))
    (jss_cons (jset 3 nd (jm_e (je_k1 (jpv 0) (je_op d_mod (je_ty c_int rfl z_int boot_int (ja_cons (je_k2 (jpv 0)) ja_nil)) (je_klen rfl z_len boot_len (jpv 0))) (fun _ _ => rfl))))
    (jss_cons (jset 4 nd (jm_e (je_op d_mod (je_ty c_int rfl z_int boot_int (ja_cons (je_op d_add (je_op d_mod (je_ty c_int rfl z_int boot_int (ja_cons (jv 3) ja_nil)) je_int) (je_op d_mul je_int (je_k2 (jpv 0)))) ja_nil)) je_int)))
    (jss_cons (jset 4 nd (jm_e (je_op d_mod (je_ty c_int rfl z_int boot_int (ja_cons (je_op d_add (je_op d_mul (jv 4) (jv 4)) (je_op d_mul je_int (je_k2 (jpv 0)))) ja_nil)) je_int)))
    (jss_one (js_ret (je_op d_mod (je_op d_div (je_op d_mod (je_ty c_int rfl z_int boot_int (ja_cons (je_op d_mul (jv 4) (jv 4)) ja_nil)) je_int) je_int) (jv 1)))))))))
set_option maxHeartbeats 0 in
theorem ok_Lone {P : Program} {w : World} {K : PySem.W.Frag} {mg : Str → Option Value} {base : Heap} {f : Addr} {fd : FuncData} (F : Fun K "_law_one" "_law_one" s_Lone f fd) (z_len : mg "len" = none) {f_Ldraw : Addr} {fd_Ldraw : FuncData} (F_Ldraw : FnG P w K mg base CX0 1 f_Ldraw fd_Ldraw ["_law_deck_here", "_law_many"] (liftSp K sp_Ldraw)) (g_Ldraw : mg "_law_draw" = some (.ref f_Ldraw)) (k_Ldraw : PySem.W.keepIn K (.ref f_Ldraw) = true) (b_Ldraw : Binds K fd_Ldraw ["_law_deck_here", "_law_many"] []) : FnG P w K mg base CX0 2 f fd ["_law_deck_here", "_law_items"] (liftSp K sp_Lone) := by
  have nd := sc_Lone.nd
  replace F_Ldraw := F_Ldraw.mono (show 1 ≤ 1 by decide)
  refine okD (wb := w_Lone) F sc_Lone ln_Lone (fun cdv A outer s H E hr => ?_) rd_Lone
  exact (jss_one (js_ret (je_ix d_ix (jv 1) (je_call (m := [true, false]) F_Ldraw hr rfl g_Ldraw k_Ldraw b_Ldraw (ja_cons (jv 0) (ja_cons (je_fn c_len rfl z_len boot_len (ja_cons (jv 1) ja_nil)) ja_nil))) (fun _ _ => rfl))))
set_option maxHeartbeats 0 in
theorem ok_Lodd {P : Program} {w : World} {K : PySem.W.Frag} {mg : Str → Option Value} {base : Heap} {f : Addr} {fd : FuncData} (F : Fun K "_law_odd" "_law_odd" s_Lodd f fd) {f_Lone : Addr} {fd_Lone : FuncData} (F_Lone : FnG P w K mg base CX0 2 f_Lone fd_Lone ["_law_deck_here", "_law_items"] (liftSp K sp_Lone)) (g_Lone : mg "_law_one" = some (.ref f_Lone)) (k_Lone : PySem.W.keepIn K (.ref f_Lone) = true) (b_Lone : Binds K fd_Lone ["_law_deck_here", "_law_items"] []) : FnG P w K mg base CX0 3 f fd ["_law_deck_here"] (liftSp K sp_Lodd) := by
  have nd := sc_Lodd.nd
  replace F_Lone := F_Lone.mono (show 2 ≤ 2 by decide)
  refine okD (wb := w_Lodd) F sc_Lodd ln_Lodd (fun cdv A outer s H E hr => ?_) rd_Lodd
  exact (jss_cons (jset 1 nd (jm_e (je_ofL (jl_lst (ja_cons je_non (ja_cons je_bl (ja_cons je_bl (ja_cons je_int (ja_cons je_int (ja_cons je_int (ja_cons (je_neg je_int) (ja_cons (je_op d_pow je_int je_int) (ja_cons je_str (ja_cons je_str (ja_cons je_str (ja_cons je_str (ja_cons (je_tup ja_nil) (ja_cons (je_ofL (jl_lst ja_nil)) (ja_cons je_dic (ja_cons (je_tup (ja_cons je_int ja_nil)) (ja_cons (je_tup (ja_cons je_int ja_nil)) (ja_cons (je_tup (ja_cons je_int (ja_cons je_int ja_nil))) (ja_cons (je_tup (ja_cons je_int (ja_cons je_int ja_nil))) ja_nil)))))))))))))))))))))))
    (jss_cons (jset 1 nd (jm_e (je_op d_addB (jv 1) (je_ofL (jl_lst (ja_cons (je_tup (ja_cons je_bl ja_nil)) (ja_cons (je_tup (ja_cons je_int (ja_cons (je_tup (ja_cons je_int ja_nil)) ja_nil))) (ja_cons (je_tup (ja_cons je_int (ja_cons (je_tup (ja_cons je_int (ja_cons je_int ja_nil))) ja_nil))) (ja_cons (je_tup (ja_cons je_int (ja_cons (je_tup (ja_cons je_int (ja_cons je_int ja_nil))) ja_nil))) (ja_cons (je_tup (ja_cons je_int (ja_cons (je_tup (ja_cons je_int (ja_cons je_int ja_nil))) (ja_cons je_int ja_nil)))) (ja_cons (je_tup (ja_cons (je_tup (ja_cons je_int (ja_cons je_int ja_nil))) (ja_cons je_int ja_nil))) (ja_cons (je_tup (ja_cons (je_tup (ja_cons je_int ja_nil)) (ja_cons je_int ja_nil))) (ja_cons (je_tup (ja_cons je_str (ja_cons je_int ja_nil))) ja_nil)))))))))))))
    (jss_one (js_ret (je_call (m := [true, false]) F_Lone hr rfl g_Lone k_Lone b_Lone (ja_cons (jv 0) (ja_cons (je_op d_addB (jv 1) (je_ofL (jl_lst (ja_cons (je_tup (ja_cons je_non ja_nil)) (ja_cons (je_tup (ja_cons (je_neg je_int) ja_nil)) (ja_cons (je_tup (ja_cons je_int (ja_cons (je_tup (ja_cons (je_neg je_int) ja_nil)) ja_nil))) (ja_cons (je_tup (ja_cons je_int (ja_cons (je_tup (ja_cons je_bl (ja_cons je_int ja_nil))) ja_nil))) (ja_cons (je_tup (ja_cons je_int (ja_cons je_int ja_nil))) (ja_cons (je_tup (ja_cons (je_tup (ja_cons je_int (ja_cons je_int ja_nil))) (ja_cons (je_tup (ja_cons je_int (ja_cons je_int ja_nil))) ja_nil))) (ja_cons (je_tup (ja_cons (je_tup (ja_cons je_int ja_nil)) (ja_cons (je_tup (ja_cons je_int ja_nil)) ja_nil))) ja_nil)))))))))) ja_nil)))))))
set_option maxHeartbeats 0 in
theorem ok_Lfar {P : Program} {w : World} {K : PySem.W.Frag} {mg : Str → Option Value} {base : Heap} {f : Addr} {fd : FuncData} (F : Fun K "_law_far" "_law_far" s_Lfar f fd) {f_Lone : Addr} {fd_Lone : FuncData} (F_Lone : FnG P w K mg base CX0 2 f_Lone fd_Lone ["_law_deck_here", "_law_items"] (liftSp K sp_Lone)) (g_Lone : mg "_law_one" = some (.ref f_Lone)) (k_Lone : PySem.W.keepIn K (.ref f_Lone) = true) (b_Lone : Binds K fd_Lone ["_law_deck_here", "_law_items"] []) {f_Ldraw : Addr} {fd_Ldraw : FuncData} (F_Ldraw : FnG P w K mg base CX0 1 f_Ldraw fd_Ldraw ["_law_deck_here", "_law_many"] (liftSp K sp_Ldraw)) (g_Ldraw : mg "_law_draw" = some (.ref f_Ldraw)) (k_Ldraw : PySem.W.keepIn K (.ref f_Ldraw) = true) (b_Ldraw : Binds K fd_Ldraw ["_law_deck_here", "_law_many"] []) : FnG P w K mg base CX0 3 f fd ["_law_deck_here"] (liftSp K sp_Lfar) := by
  have nd := sc_Lfar.nd
  replace F_Lone := F_Lone.mono (show 2 ≤ 2 by decide)
  replace F_Ldraw := F_Ldraw.mono (show 1 ≤ 2 by decide)
  refine okD (wb := w_Lfar) F sc_Lfar ln_Lfar (fun cdv A outer s H E hr => ?_) rd_Lfar
  exact (jss_one (js_ret (je_call (m := [true, false]) F_Lone hr rfl g_Lone k_Lone b_Lone (ja_cons (jv 0) (ja_cons (je_ofL (jl_lst (ja_cons (je_op d_addB je_int (je_call (m := [true, false]) F_Ldraw hr rfl g_Ldraw k_Ldraw b_Ldraw (ja_cons (jv 0) (ja_cons je_int ja_nil)))) (ja_cons (je_op d_addB je_int (je_call (m := [true, false]) F_Ldraw hr rfl g_Ldraw k_Ldraw b_Ldraw (ja_cons (jv 0) (ja_cons (je_op d_pow je_int je_int) ja_nil)))) (ja_cons (je_op d_addB je_int (je_call (m := [true, false]) F_Ldraw hr rfl g_Ldraw k_Ldraw b_Ldraw (ja_cons (jv 0) (ja_cons (je_op d_pow je_int je_int) ja_nil)))) (ja_cons (je_op d_pow je_int je_int) ja_nil)))))) ja_nil)))))
set_option maxHeartbeats 0 in
theorem ok_Lwide {P : Program} {w : World} {K : PySem.W.Frag} {mg : Str → Option Value} {base : Heap} {f : Addr} {fd : FuncData} (F : Fun K "_law_wide" "_law_wide" s_Lwide f fd) (z_range : mg "range" = none) (z_tuple : mg "tuple" = none) {f_Lfar : Addr} {fd_Lfar : FuncData} (F_Lfar : FnG P w K mg base CX0 3 f_Lfar fd_Lfar ["_law_deck_here"] (liftSp K sp_Lfar)) (g_Lfar : mg "_law_far" = some (.ref f_Lfar)) (k_Lfar : PySem.W.keepIn K (.ref f_Lfar) = true) (b_Lfar : Binds K fd_Lfar ["_law_deck_here"] []) : FnG P w K mg base CX0 4 f fd ["_law_deck_here", "_law_axes"] (liftSp K sp_Lwide) := by
  have nd := sc_Lwide.nd
  replace F_Lfar := F_Lfar.mono (show 3 ≤ 3 by decide)
  refine okD (wb := w_Lwide) F sc_Lwide ln_Lwide (fun cdv A outer s H E hr => ?_) rd_Lwide
  exact (jss_one (js_ret (je_ty c_tup rfl z_tuple boot_tuple (ja_cons (je_ofL (jl_comp (own := [("_law_axis", 2)]) rfl nd (ji_range1 rfl z_range (ja_cons (jv 1) ja_nil)) (blkOk_by (by kernel_rfl)) (by decide) (fun _ _ _ _ _ => (jgn 2 nd)) (fun _ _ _ _ _ => jts_nil) (fun _ _ _ _ _ => (je_call (m := [true]) F_Lfar hr rfl g_Lfar k_Lfar b_Lfar (ja_cons (jv 0) ja_nil))))) ja_nil))))
set_option maxHeartbeats 0 in
theorem ok_Lsides_text {P : Program} {w : World} {K : PySem.W.Frag} {mg : Str → Option Value} {base : Heap} {f : Addr} {fd : FuncData} (F : Fun K "_law_sides_text" "_law_sides_text" s_Lsides_text f fd) (z_str : mg "str" = none) : FnG P w K mg base CX0 1 f fd ["_law_sides"] (liftSp K sp_sides_text) := by
  have nd := sc_Lsides_text.nd
  refine okD (wb := w_sides_text) F sc_Lsides_text ln_sides_text (fun cdv A outer s H E hr => ?_) rd_sides_text
  exact (jss_one (js_ret (je_joinC (je_ofL (jl_comp (own := [("_law_side", 1)]) rfl nd (ji_seq (jv 0)) (blkOk_by (by kernel_rfl)) (by decide) (fun _ _ _ _ _ => (jgn 1 nd)) (fun _ _ _ _ _ => jts_nil) (fun _ _ _ _ _ => (je_ty c_strB rfl z_str boot_str (ja_cons (jv 1) ja_nil))))))))
set_option maxHeartbeats 0 in
theorem ok_Lkinds_text {P : Program} {w : World} {K : PySem.W.Frag} {mg : Str → Option Value} {base : Heap} {f : Addr} {fd : FuncData} (F : Fun K "_law_kinds_text" "_law_kinds_text" s_Lkinds_text f fd) {f_Lsides_text : Addr} {fd_Lsides_text : FuncData} (F_Lsides_text : FnG P w K mg base CX0 1 f_Lsides_text fd_Lsides_text ["_law_sides"] (liftSp K sp_sides_text)) (g_Lsides_text : mg "_law_sides_text" = some (.ref f_Lsides_text)) (k_Lsides_text : PySem.W.keepIn K (.ref f_Lsides_text) = true) (b_Lsides_text : Binds K fd_Lsides_text ["_law_sides"] []) : FnG P w K mg base CX0 2 f fd ["_law_kinds"] (liftSp K sp_kinds_text) := by
  have nd := sc_Lkinds_text.nd
  replace F_Lsides_text := F_Lsides_text.mono (show 1 ≤ 1 by decide)
  refine okD (wb := w_kinds_text) F sc_Lkinds_text ln_kinds_text (fun cdv A outer s H E hr => ?_) rd_kinds_text
  exact (jss_one (js_ret (je_joinC (je_ofL (jl_comp (own := [("_law_sides", 1)]) rfl nd (ji_seq (jv 0)) (blkOk_by (by kernel_rfl)) (by decide) (fun _ _ _ _ _ => (jgn 1 nd)) (fun _ _ _ _ _ => jts_nil) (fun _ _ _ _ _ => (je_call (m := []) F_Lsides_text hr rfl g_Lsides_text k_Lsides_text b_Lsides_text (ja_cons (jv 1) ja_nil))))))))
set_option maxHeartbeats 0 in
theorem ok_Lis_number {P : Program} {w : World} {K : PySem.W.Frag} {mg : Str → Option Value} {base : Heap} {f : Addr} {fd : FuncData} (F : Fun K "_law_is_number" "_law_is_number" s_Lis_number f fd) (z_int : mg "int" = none) (z_len : mg "len" = none) : FnG P w K mg base CX0 1 f fd ["_law_word", "_law_is_whole"] (liftSp K sp_Lis_number) := by
  have nd := sc_Lis_number.nd
  refine okD (wb := w_Lis_number) F sc_Lis_number ln_Lis_number (fun cdv A outer s H E hr => ?_) rd_Lis_number
  exact (jss_cons (js_if (jt_cmp (d_eq hr.u64) (jv 0) je_str) (jss_one (js_ret (je_not (jv 1)))) jss_nil)
    (jss_cons (js_if (jt_w (jw_or (jt_cmp (d_ne hr.u64) (je_ofL (jl_comp (own := [("_law_sign", 2)]) rfl nd (ji_str (jv 0)) (blkOk_by (by kernel_rfl)) (by decide) (fun _ _ _ _ _ => (jgn 2 nd)) (fun _ _ _ _ _ => (jts_one (jt_cmp (d_notIn hr.u65) (jv 2) je_str))) (fun _ _ _ _ _ => (jv 2)))) (je_ofL (jl_lst ja_nil))) (jw_or (jt_cmp (d_eq hr.u64) (je_ix d_ix (jv 0) je_int (fun _ _ => rfl)) je_str) (jw_or1 (jt_cmp d_gt (je_fn c_len rfl z_len boot_len (ja_cons (jv 0) ja_nil)) je_int))))) (jss_one (js_ret je_bl)) jss_nil)
    (jss_one (js_ret (je_cmp d_le (je_ty c_int rfl z_int boot_int (ja_cons (jv 0) ja_nil)) (je_op d_pow je_int je_int))))))
set_option maxHeartbeats 0 in
theorem ok_Lis_group {P : Program} {w : World} {K : PySem.W.Frag} {mg : Str → Option Value} {base : Heap} {f : Addr} {fd : FuncData} (F : Fun K "_law_is_group" "_law_is_group" s_Lis_group f fd) (z_len : mg "len" = none) (z_min : mg "min" = none) {f_Lis_number : Addr} {fd_Lis_number : FuncData} (F_Lis_number : FnG P w K mg base CX0 1 f_Lis_number fd_Lis_number ["_law_word", "_law_is_whole"] (liftSp K sp_Lis_number)) (g_Lis_number : mg "_law_is_number" = some (.ref f_Lis_number)) (k_Lis_number : PySem.W.keepIn K (.ref f_Lis_number) = true) (b_Lis_number : Binds K fd_Lis_number ["_law_word", "_law_is_whole"] []) : FnG P w K mg base CX0 2 f fd ["_law_group", "_law_axes", "_law_is_whole"] (liftSp K sp_Lis_group) := by
  have nd := sc_Lis_group.nd
  replace F_Lis_number := F_Lis_number.mono (show 1 ≤ 1 by decide)
  refine okD (wb := w_Lis_group) F sc_Lis_group ln_Lis_group (fun cdv A outer s H E hr => ?_) rd_Lis_group
  exact (jss_cons (jset 3 nd (jm_e (je_splitC (by decide) (jv 0))))
    (jss_cons (js_if (jt_w (jw_or (jt_cmp d_gt (je_fn c_len rfl z_len boot_len (ja_cons (jv 3) ja_nil)) (je_ifE (jt_cmp d_is (jv 1) je_non) je_int (je_fn (c_min2 rfl) rfl z_min boot_min (ja_cons je_int (ja_cons (jv 1) ja_nil))))) (jw_or1 (jt_cmp (d_ne hr.u64) (je_ofL (jl_comp (own := [("_law_word", 4)]) rfl nd (ji_seq (je_sl d_sl (jv 3) jo_none (jo_some (je_neg je_int)))) (blkOk_by (by kernel_rfl)) (by decide) (fun _ _ _ _ _ => (jgn 4 nd)) (fun _ _ _ _ _ => (jts_one (jt_not (jt_val (je_call (m := []) F_Lis_number hr rfl g_Lis_number k_Lis_number b_Lis_number (ja_cons (jv 4) (ja_cons je_bl ja_nil))))))) (fun _ _ _ _ _ => (jv 4)))) (je_ofL (jl_lst ja_nil)))))) (jss_one (js_ret je_bl)) jss_nil)
    (jss_cons (js_if (jt_w (jw_and (jt_val (jv 2)) (jw_and (jt_cmp d_isnot (jv 1) je_non) (jw_and1 (jt_cmp (d_ne hr.u64) (je_fn c_len rfl z_len boot_len (ja_cons (jv 3) ja_nil)) (jv 1)))))) (jss_one (js_ret je_bl)) jss_nil)
    (jss_one (js_ret (je_call (m := []) F_Lis_number hr rfl g_Lis_number k_Lis_number b_Lis_number (ja_cons (je_ix d_ix (jv 3) (je_neg je_int) (fun _ _ => rfl)) (ja_cons (jv 2) ja_nil))))))))
set_option maxHeartbeats 0 in
theorem ok_Lis_text {P : Program} {w : World} {K : PySem.W.Frag} {mg : Str → Option Value} {base : Heap} {f : Addr} {fd : FuncData} (F : Fun K "_law_is_text" "_law_is_text" s_Lis_text f fd) (z_len : mg "len" = none) {f_Lis_group : Addr} {fd_Lis_group : FuncData} (F_Lis_group : FnG P w K mg base CX0 2 f_Lis_group fd_Lis_group ["_law_group", "_law_axes", "_law_is_whole"] (liftSp K sp_Lis_group)) (g_Lis_group : mg "_law_is_group" = some (.ref f_Lis_group)) (k_Lis_group : PySem.W.keepIn K (.ref f_Lis_group) = true) (b_Lis_group : Binds K fd_Lis_group ["_law_group", "_law_axes", "_law_is_whole"] []) : FnG P w K mg base CX0 3 f fd ["_law_value", "_law_is_whole"] (liftSp K sp_Lis_text) := by
  have nd := sc_Lis_text.nd
  replace F_Lis_group := F_Lis_group.mono (show 2 ≤ 2 by decide)
  refine okD (wb := w_Lis_text) F sc_Lis_text ln_Lis_text (fun cdv A outer s H E hr => ?_) rd_Lis_text
  exact (jss_cons (jset 2 nd (jm_e (je_splitC (by decide) (jv 0))))
    (jss_cons (jset 3 nd (jm_e (je_ifE (jt_cmp d_gt (je_fn c_len rfl z_len boot_len (ja_cons (jv 2) ja_nil)) je_int) (je_fn c_len rfl z_len boot_len (ja_cons (je_splitC (by decide) (je_ix d_ix (jv 2) je_int (fun _ _ => rfl))) ja_nil)) je_non)))
    (jss_cons (js_if (jt_w (jw_or (jt_cmp d_gt (je_fn c_len rfl z_len boot_len (ja_cons (jv 2) ja_nil)) je_int) (jw_or1 (jt_cmp (d_ne hr.u64) (je_ofL (jl_comp (own := [("_law_group", 4)]) rfl nd (ji_seq (je_sl d_sl (jv 2) jo_none (jo_some (je_neg je_int)))) (blkOk_by (by kernel_rfl)) (by decide) (fun _ _ _ _ _ => (jgn 4 nd)) (fun _ _ _ _ _ => (jts_one (jt_not (jt_val (je_call (m := []) F_Lis_group hr rfl g_Lis_group k_Lis_group b_Lis_group (ja_cons (jv 4) (ja_cons (jv 3) (ja_cons je_bl ja_nil)))))))) (fun _ _ _ _ _ => (jv 4)))) (je_ofL (jl_lst ja_nil)))))) (jss_one (js_ret je_bl)) jss_nil)
    (jss_one (js_ret (je_call (m := []) F_Lis_group hr rfl g_Lis_group k_Lis_group b_Lis_group (ja_cons (je_ix d_ix (jv 2) (je_neg je_int) (fun _ _ => rfl)) (ja_cons (jv 3) (ja_cons (jv 1) ja_nil)))))))))
set_option maxHeartbeats 0 in
theorem ok_Ldue {P : Program} {w : World} {K : PySem.W.Frag} {mg : Str → Option Value} {base : Heap} {f : Addr} {fd : FuncData} (F : Fun K "_law_due" "_law_due" s_Ldue f fd) (z_len : mg "len" = none) (z_range : mg "range" = none) (z_int : mg "int" = none) (z_tuple : mg "tuple" = none) (z_isinstance : mg "isinstance" = none) (z_str : mg "str" = none) {f_Lis_text : Addr} {fd_Lis_text : FuncData} (F_Lis_text : FnG P w K mg base CX0 3 f_Lis_text fd_Lis_text ["_law_value", "_law_is_whole"] (liftSp K sp_Lis_text)) (g_Lis_text : mg "_law_is_text" = some (.ref f_Lis_text)) (k_Lis_text : PySem.W.keepIn K (.ref f_Lis_text) = true) (b_Lis_text : Binds K fd_Lis_text ["_law_value", "_law_is_whole"] []) : FnG P w K mg base CX0 4 f fd ["_law_value"] (liftSp K sp_Ldue) := by
  have nd := sc_Ldue.nd
  replace F_Lis_text := F_Lis_text.mono (show 3 ≤ 3 by decide)
  refine okD (wb := w_Ldue) F sc_Ldue ln_Ldue (fun cdv A outer s H E hr => ?_) rd_Ldue
  exact (jss_cons (js_if (jt_not (jt_val (je_isi (T := "str") (by simp) rfl z_isinstance boot_isinstance rfl z_str boot_str (jv 0)))) (jss_one (js_ret (je_ofL (jl_lst (ja_cons je_str (ja_cons je_non ja_nil)))))) jss_nil)
    (jss_cons (js_if (jt_val (je_call (m := []) F_Lis_text hr rfl g_Lis_text k_Lis_text b_Lis_text (ja_cons (jv 0) (ja_cons je_bl ja_nil)))) (jss_one (js_ret (je_ofL (jl_lst (ja_cons je_str (ja_cons (je_ty c_tup rfl z_tuple boot_tuple (ja_cons (je_ofL (jl_comp (own := [("_law_group", 2)]) rfl nd (ji_seq (je_splitC (by decide) (jv 0))) (blkOk_by (by kernel_rfl)) (by decide) (fun _ _ _ _ _ => (jgn 2 nd)) (fun _ _ _ _ _ => jts_nil) (fun _ _ _ _ _ => (je_ty c_tup rfl z_tuple boot_tuple (ja_cons (je_ofL (jl_comp (own := [("_law_word", 1)]) rfl nd (ji_seq (je_splitC (by decide) (jv 2))) (blkOk_by (by kernel_rfl)) (by decide) (fun _ _ _ _ _ => (jgn 1 nd)) (fun _ _ _ _ _ => jts_nil) (fun _ _ _ _ _ => (je_ty c_int rfl z_int boot_int (ja_cons (jv 1) ja_nil))))) ja_nil))))) ja_nil)) ja_nil)))))) jss_nil)
    (jss_cons (js_setCE (i := 3) (own := [("_law_k", 4)]) rfl nd rfl rfl (sw_true rfl rfl rfl (by decide +kernel)) (ji_range1 rfl z_range (ja_cons (je_fn c_len rfl z_len boot_len (ja_cons (jv 0) ja_nil)) ja_nil)) (blkOk_by (by kernel_rfl)) (by decide) (fun _ _ _ _ _ => (jgn 4 nd)) (fun _ _ _ _ _ => (jts_one (jt_not (jt_val (je_call (m := []) F_Lis_text hr rfl g_Lis_text k_Lis_text b_Lis_text (ja_cons (je_sl d_sl (jv 0) jo_none (jo_some (je_op d_addB (jv 4) je_int))) (ja_cons je_bl ja_nil))))))) (fun _ _ _ _ _ => (jv 4)))
    (jss_one (js_ret (je_ofL (jl_lst (ja_cons je_str (ja_cons (je_ix d_ix (je_op d_addB (jv 3) (je_ofL (jl_lst (ja_cons (je_fn c_len rfl z_len boot_len (ja_cons (jv 0) ja_nil)) ja_nil)))) je_int (fun _ _ => rfl)) ja_nil)))))))))
set_option maxHeartbeats 0 in
theorem ok_number_at {P : Program} {w : World} {K : PySem.W.Frag} {mg : Str → Option Value} {base : Heap} {f : Addr} {fd : FuncData} (F : Fun K "number_at" "number_at" s_number_at f fd) {TL : XNames} (z_int : mg "int" = none) (z_len : mg "len" = none) {t_MAX_SIDE : Tok} (c_MAX_SIDE : mg "MAX_SIDE" = some (.int 1000000000000 t_MAX_SIDE)) {t_FIGURES : Tok} (c_FIGURES : mg "FIGURES" = some (.str "0123456789" t_FIGURES)) (x_BadText : XC1 P w K mg base TL "BadText" "place") : FnG P w K mg base (L2N.CX P w) 3 f fd ["text", "at"] (liftSpX K TL sp_number_atX) := by
  have nd := sc_number_at.nd
  refine okX (TL := TL) (wb := w_number_atX) F sc_number_at ln_number_atX (fun cdv A outer s H E hr => ?_) rd_number_atX
  exact (jssx_cons (jsx_if (jt_w (jw_or (jt_cmp (d_eq hr.u64) (jv 1) (je_fn c_len rfl z_len boot_len (ja_cons (jv 0) ja_nil))) (jw_or (jt_cmp (d_eq hr.u64) (je_ix d_ix (jv 0) (jv 1) (fun _ _ => rfl)) je_str) (jw_or1 (jt_cmp (d_notIn hr.u65) (je_ix d_ix (jv 0) (jv 1) (fun _ _ => rfl)) (je_glob (v := .str "0123456789") rfl c_FIGURES ⟨_, rfl⟩ (fun _ _ => .str _))))))) (jssx_one (jsx_raise rfl (jmk1x x_BadText (hr.mono (by decide)) rfl (ja_cons (jv 1) ja_nil)))) (jssx_of jss_nil))
    (jssx_cons (jsx_of (jset 2 nd (jm_e je_int)))
    (jssx_cons (jsx_of (js_while PassesOwn.leaving (jt_w (jw_and (jt_cmp d_lt (jv 1) (je_fn c_len rfl z_len boot_len (ja_cons (jv 0) ja_nil))) (jw_and (jt_cmp (d_in hr.u65) (je_ix d_ix (jv 0) (jv 1) (fun _ _ => rfl)) (je_glob (v := .str "0123456789") rfl c_FIGURES ⟨_, rfl⟩ (fun _ _ => .str _))) (jw_and1 (jt_cmp d_le (je_op d_addB (je_op d_mulT (jv 2) je_int) (je_ty c_int rfl z_int boot_int (ja_cons (je_ix d_ix (jv 0) (jv 1) (fun _ _ => rfl)) ja_nil))) (je_glob (v := .int 1000000000000) rfl c_MAX_SIDE ⟨_, rfl⟩ (fun _ _ => .int _))))))) (jss_one (jpar (i := 2) (j := 1) rfl nd rfl rfl (by decide) (jms_cons (jm_e (je_op d_addB (je_op d_mulT (jv 2) je_int) (je_ty c_int rfl z_int boot_int (ja_cons (je_ix d_ix (jv 0) (jv 1) (fun _ _ => rfl)) ja_nil)))) (jms_cons (jm_e (je_op d_addB (jv 1) je_int)) jms_nil))))))
    (jssx_one (jsx_of (js_ret (je_tup (ja_cons (jv 2) (ja_cons (jv 1) ja_nil)))))))))
set_option maxHeartbeats 0 in
theorem ok_sides_at {P : Program} {w : World} {K : PySem.W.Frag} {mg : Str → Option Value} {base : Heap} {f : Addr} {fd : FuncData} (F : Fun K "sides_at" "sides_at" s_sides_at f fd) {TL : XNames} (z_tuple : mg "tuple" = none) (z_len : mg "len" = none) {f_number_at : Addr} {fd_number_at : FuncData} (F_number_at : FnG P w K mg base (L2N.CX P w) 3 f_number_at fd_number_at ["text", "at"] (liftSpX K TL sp_number_atX)) (g_number_at : mg "number_at" = some (.ref f_number_at)) (k_number_at : PySem.W.keepIn K (.ref f_number_at) = true) (b_number_at : Binds K fd_number_at ["text", "at"] []) : FnG P w K mg base (L2N.CX P w) 4 f fd ["text", "at", "most"] (liftSpX K TL sp_sides_atX) := by
  have nd := sc_sides_at.nd
  replace F_number_at := F_number_at.mono (show 3 ≤ 3 by decide)
  refine okX (TL := TL) (wb := w_sides_atX) F sc_sides_at ln_sides_atX (fun cdv A outer s H E hr => ?_) rd_sides_atX
  exact (jssx_cons (jsx_asgG (jex_call (m := []) F_number_at hr rfl g_number_at k_number_at b_number_at (jxa (ja_cons (jv 0) (ja_cons (jv 1) ja_nil)))) (jg_tup rfl (jgs_cons (jgn 3 nd) (jgs_cons (jgn 1 nd) jgs_nil)) (gs_lenN (gs_lenN gs_len0))))
    (jssx_cons (jsx_of (jset 4 nd (jm_l (jl_lst (ja_cons (jv 3) ja_nil)))))
    (jssx_cons (jsx_while PassesOwn.leaving (jt_w (jw_and (jt_cmp d_lt (jv 1) (je_fn c_len rfl z_len boot_len (ja_cons (jv 0) ja_nil))) (jw_and (jt_cmp (d_eq hr.u64) (je_ix d_ix (jv 0) (jv 1) (fun _ _ => rfl)) je_str) (jw_and1 (jt_cmp d_lt (je_fn c_len rfl z_len boot_len (ja_cons (jv 4) ja_nil)) (jv 2)))))) (jssx_cons (jsx_asgG (jex_call (m := []) F_number_at hr rfl g_number_at k_number_at b_number_at (jxa (ja_cons (jv 0) (ja_cons (je_op d_addB (jv 1) je_int) ja_nil)))) (jg_tup rfl (jgs_cons (jgn 3 nd) (jgs_cons (jgn 1 nd) jgs_nil)) (gs_lenN (gs_lenN gs_len0))))
    (jssx_one (jsx_of (js_append (jpv 4) (jv 3) rfl rfl (pe_bm PySem.F.plainAttrs_list PySem.F.slot_list_append PySem.F.type_list_append mt_append (jpv 4) (pa_cons (jv 3) pa_nil)))))))
    (jssx_one (jsx_of (js_ret (je_tup (ja_cons (je_ty c_tup rfl z_tuple boot_tuple (ja_cons (jv 4) ja_nil)) (ja_cons (jv 1) ja_nil)))))))))
set_option maxHeartbeats 0 in
theorem ok_require_text {P : Program} {w : World} {K : PySem.W.Frag} {mg : Str → Option Value} {base : Heap} {f : Addr} {fd : FuncData} (F : Fun K "require_text" "require_text" s_require_text f fd) {TL : XNames} (z_isinstance : mg "isinstance" = none) (z_str : mg "str" = none) (x_BadText : XC1 P w K mg base TL "BadText" "place") : FnG P w K mg base (L2N.CX P w) 3 f fd ["value"] (liftSpX K TL sp_require_textX) := by
  have nd := sc_require_text.nd
  refine okX (TL := TL) (wb := w_require_textX) F sc_require_text ln_require_textX (fun cdv A outer s H E hr => ?_) rd_require_textX
  exact (jssx_one (jsx_if (jt_not (jt_val (je_isi (T := "str") (by simp) rfl z_isinstance boot_isinstance rfl z_str boot_str (jv 0)))) (jssx_one (jsx_raise rfl (jmk1x x_BadText (hr.mono (by decide)) rfl (ja_cons je_non ja_nil)))) (jssx_of jss_nil)))
set_option maxHeartbeats 0 in
theorem ok_parse_kinds {P : Program} {w : World} {K : PySem.W.Frag} {mg : Str → Option Value} {base : Heap} {f : Addr} {fd : FuncData} (F : Fun K "parse_kinds" "parse_kinds" s_parse_kinds f fd) {TL : XNames} (z_tuple : mg "tuple" = none) (z_len : mg "len" = none) {t_MAX_KINDS : Tok} (c_MAX_KINDS : mg "MAX_KINDS" = some (.int 4 t_MAX_KINDS)) {t_MAX_DIMS : Tok} (c_MAX_DIMS : mg "MAX_DIMS" = some (.int 4 t_MAX_DIMS)) {f_sides_at : Addr} {fd_sides_at : FuncData} (F_sides_at : FnG P w K mg base (L2N.CX P w) 4 f_sides_at fd_sides_at ["text", "at", "most"] (liftSpX K TL sp_sides_atX)) (g_sides_at : mg "sides_at" = some (.ref f_sides_at)) (k_sides_at : PySem.W.keepIn K (.ref f_sides_at) = true) (b_sides_at : Binds K fd_sides_at ["text", "at", "most"] []) {f_require_text : Addr} {fd_require_text : FuncData} (F_require_text : FnG P w K mg base (L2N.CX P w) 3 f_require_text fd_require_text ["value"] (liftSpX K TL sp_require_textX)) (g_require_text : mg "require_text" = some (.ref f_require_text)) (k_require_text : PySem.W.keepIn K (.ref f_require_text) = true) (b_require_text : Binds K fd_require_text ["value"] []) (x_BadText : XC1 P w K mg base TL "BadText" "place") : FnG P w K mg base (L2N.CX P w) 5 f fd ["value"] (liftSpX K TL sp_parse_kindsX) := by
  have nd := sc_parse_kinds.nd
  replace F_sides_at := F_sides_at.mono (show 4 ≤ 4 by decide)
  replace F_require_text := F_require_text.mono (show 3 ≤ 4 by decide)
  refine okX (TL := TL) (wb := w_parse_kindsX) F sc_parse_kinds ln_parse_kindsX (fun cdv A outer s H E hr => ?_) rd_parse_kindsX
  exact (jssx_cons (jsx_expr (jex_call (m := []) F_require_text hr rfl g_require_text k_require_text b_require_text (jxa (ja_cons (jv 0) ja_nil))))
    (jssx_cons (jsx_asgG (jex_call (m := []) F_sides_at hr rfl g_sides_at k_sides_at b_sides_at (jxa (ja_cons (jv 0) (ja_cons je_int (ja_cons (je_glob (v := .int 4) rfl c_MAX_DIMS ⟨_, rfl⟩ (fun _ _ => .int _)) ja_nil))))) (jg_tup rfl (jgs_cons (jgn 1 nd) (jgs_cons (jgn 2 nd) jgs_nil)) (gs_lenN (gs_lenN gs_len0))))
    (jssx_cons (jsx_of (jset 3 nd (jm_l (jl_lst (ja_cons (jv 1) ja_nil)))))
    (jssx_cons (jsx_while PassesOwn.leaving (jt_w (jw_and (jt_cmp d_lt (jv 2) (je_fn c_len rfl z_len boot_len (ja_cons (jv 0) ja_nil))) (jw_and (jt_cmp (d_eq hr.u64) (je_ix d_ix (jv 0) (jv 2) (fun _ _ => rfl)) je_str) (jw_and1 (jt_cmp d_lt (je_fn c_len rfl z_len boot_len (ja_cons (jv 3) ja_nil)) (je_glob (v := .int 4) rfl c_MAX_KINDS ⟨_, rfl⟩ (fun _ _ => .int _))))))) (jssx_cons (jsx_asgG (jex_call (m := []) F_sides_at hr rfl g_sides_at k_sides_at b_sides_at (jxa (ja_cons (jv 0) (ja_cons (je_op d_addB (jv 2) je_int) (ja_cons (je_fn c_len rfl z_len boot_len (ja_cons (jv 1) ja_nil)) ja_nil))))) (jg_tup rfl (jgs_cons (jgn 4 nd) (jgs_cons (jgn 2 nd) jgs_nil)) (gs_lenN (gs_lenN gs_len0))))
    (jssx_cons (jsx_if (jt_cmp d_lt (je_fn c_len rfl z_len boot_len (ja_cons (jv 4) ja_nil)) (je_fn c_len rfl z_len boot_len (ja_cons (jv 1) ja_nil))) (jssx_one (jsx_raise rfl (jmk1x x_BadText (hr.mono (by decide)) rfl (ja_cons (jv 2) ja_nil)))) (jssx_of jss_nil))
    (jssx_one (jsx_of (js_append (jpv 3) (jv 4) rfl rfl (pe_bm PySem.F.plainAttrs_list PySem.F.slot_list_append PySem.F.type_list_append mt_append (jpv 3) (pa_cons (jv 4) pa_nil))))))))
    (jssx_cons (jsx_if (jt_cmp d_lt (jv 2) (je_fn c_len rfl z_len boot_len (ja_cons (jv 0) ja_nil))) (jssx_one (jsx_raise rfl (jmk1x x_BadText (hr.mono (by decide)) rfl (ja_cons (jv 2) ja_nil)))) (jssx_of jss_nil))
    (jssx_one (jsx_of (js_ret (je_ty c_tup rfl z_tuple boot_tuple (ja_cons (jv 3) ja_nil))))))))))
set_option maxHeartbeats 0 in
theorem ok_Ltold {P : Program} {w : World} {K : PySem.W.Frag} {mg : Str → Option Value} {base : Heap} {f : Addr} {fd : FuncData} (F : Fun K "_law_told" "_law_told" s_Ltold f fd) {TL : XNames} {f_parse_kinds : Addr} {fd_parse_kinds : FuncData} (F_parse_kinds : FnG P w K mg base (L2N.CX P w) 5 f_parse_kinds fd_parse_kinds ["value"] (liftSpX K TL sp_parse_kindsX)) (g_parse_kinds : mg "parse_kinds" = some (.ref f_parse_kinds)) (k_parse_kinds : PySem.W.keepIn K (.ref f_parse_kinds) = true) (b_parse_kinds : Binds K fd_parse_kinds ["value"] []) (tl : TLok K TL) (y_BadText : YC K mg TL "BadText" (fun _ => true)) (fc_place : FC K TL "place") : FnG P w K mg base CX0 6 f fd ["_law_value"] (liftSp K sp_Ltold) := by
  have nd := sc_Ltold.nd
  replace F_parse_kinds := F_parse_kinds.mono (show 5 ≤ 5 by decide)
  refine okD (wb := w_Ltold) F sc_Ltold ln_Ltold (fun cdv A outer s H E hr => ?_) rd_Ltold
  exact (jss_cons (js_noX (TL := TL) (jsx_tryx (i := 2) tl y_BadText rfl rfl nd rfl rfl rfl (fun pn xe po => (jssx_one (jxset 1 nd (jex_lst (jax_cons (jxe je_str) (jax_cons (jex_call (m := []) F_parse_kinds hr rfl g_parse_kinds k_parse_kinds b_parse_kinds (jxa (ja_cons (jv 0) ja_nil))) jax_nil)))))) (fun a oe cls d pn hz hv hC => (jss_one (jset 1 nd (jm_e (je_ofL (jl_lst (ja_cons je_str (ja_cons (jxf 2 tl fc_place hz hv hC) ja_nil))))))))))
    (jss_one (js_ret (jv 1))))
set_option maxHeartbeats 0 in
theorem ok_Lspoilt {P : Program} {w : World} {K : PySem.W.Frag} {mg : Str → Option Value} {base : Heap} {f : Addr} {fd : FuncData} (F : Fun K "_law_spoilt" "_law_spoilt" s_Lspoilt f fd) (z_len : mg "len" = none) {f_Lone : Addr} {fd_Lone : FuncData} (F_Lone : FnG P w K mg base CX0 2 f_Lone fd_Lone ["_law_deck_here", "_law_items"] (liftSp K sp_Lone)) (g_Lone : mg "_law_one" = some (.ref f_Lone)) (k_Lone : PySem.W.keepIn K (.ref f_Lone) = true) (b_Lone : Binds K fd_Lone ["_law_deck_here", "_law_items"] []) {f_Ldraw : Addr} {fd_Ldraw : FuncData} (F_Ldraw : FnG P w K mg base CX0 1 f_Ldraw fd_Ldraw ["_law_deck_here", "_law_many"] (liftSp K sp_Ldraw)) (g_Ldraw : mg "_law_draw" = some (.ref f_Ldraw)) (k_Ldraw : PySem.W.keepIn K (.ref f_Ldraw) = true) (b_Ldraw : Binds K fd_Ldraw ["_law_deck_here", "_law_many"] []) : FnG P w K mg base CX0 3 f fd ["_law_deck_here", "_law_text"] (liftSp K sp_Lspoilt) := by
  have nd := sc_Lspoilt.nd
  replace F_Lone := F_Lone.mono (show 2 ≤ 2 by decide)
  replace F_Ldraw := F_Ldraw.mono (show 1 ≤ 2 by decide)
  refine okD (wb := w_Lspoilt) F sc_Lspoilt ln_Lspoilt (fun cdv A outer s H E hr => ?_) rd_Lspoilt
  exact (jss_cons (jpar (i := 2) (j := 3) rfl nd rfl rfl (by decide) (jms_cons (jm_e (je_call (m := [true, false]) F_Ldraw hr rfl g_Ldraw k_Ldraw b_Ldraw (ja_cons (jv 0) (ja_cons (je_op d_addB (je_fn c_len rfl z_len boot_len (ja_cons (jv 1) ja_nil)) je_int) ja_nil)))) (jms_cons (jm_e (je_call (m := [true, false]) F_Ldraw hr rfl g_Ldraw k_Ldraw b_Ldraw (ja_cons (jv 0) (ja_cons je_int ja_nil)))) jms_nil)))
    (jss_cons (jset 4 nd (jm_e (je_call (m := [true, false]) F_Lone hr rfl g_Lone k_Lone b_Lone (ja_cons (jv 0) (ja_cons (je_ofL (jl_lst (ja_cons je_str (ja_cons je_str (ja_cons je_str (ja_cons je_str (ja_cons je_str (ja_cons je_str (ja_cons je_str (ja_cons je_str (ja_cons je_str (ja_cons je_str (ja_cons je_str (ja_cons je_str (ja_cons je_str (ja_cons je_str ja_nil)))))))))))))))) ja_nil)))))
    (jss_one (js_ret (je_ix d_ix (je_ofL (jl_lst (ja_cons (je_op d_addB (je_op d_addB (je_sl d_sl (jv 1) jo_none (jo_some (jv 2))) (jv 4)) (je_sl d_sl (jv 1) (jo_some (jv 2)) jo_none)) (ja_cons (je_op d_addB (je_op d_addB (je_sl d_sl (jv 1) jo_none (jo_some (jv 2))) (jv 4)) (je_sl d_sl (jv 1) (jo_some (je_op d_addB (jv 2) je_int)) jo_none)) (ja_cons (je_sl d_sl (jv 1) jo_none (jo_some (jv 2))) (ja_cons (je_op d_addB (jv 1) (jv 4)) ja_nil)))))) (jv 3) (fun _ _ => rfl))))))
set_option maxHeartbeats 0 in
theorem ok_law {P : Program} {w : World} {K : PySem.W.Frag} {mg : Str → Option Value} {base : Heap} {f : Addr} {fd : FuncData} (F : Fun K "law" "law" s_law f fd) (z_range : mg "range" = none) (z_repr : mg "repr" = none) (z_tuple : mg "tuple" = none) {f_Lodd : Addr} {fd_Lodd : FuncData} (F_Lodd : FnG P w K mg base CX0 3 f_Lodd fd_Lodd ["_law_deck_here"] (liftSp K sp_Lodd)) (g_Lodd : mg "_law_odd" = some (.ref f_Lodd)) (k_Lodd : PySem.W.keepIn K (.ref f_Lodd) = true) (b_Lodd : Binds K fd_Lodd ["_law_deck_here"] []) {f_Ltold : Addr} {fd_Ltold : FuncData} (F_Ltold : FnG P w K mg base CX0 6 f_Ltold fd_Ltold ["_law_value"] (liftSp K sp_Ltold)) (g_Ltold : mg "_law_told" = some (.ref f_Ltold)) (k_Ltold : PySem.W.keepIn K (.ref f_Ltold) = true) (b_Ltold : Binds K fd_Ltold ["_law_value"] []) {f_Ldue : Addr} {fd_Ldue : FuncData} (F_Ldue : FnG P w K mg base CX0 4 f_Ldue fd_Ldue ["_law_value"] (liftSp K sp_Ldue)) (g_Ldue : mg "_law_due" = some (.ref f_Ldue)) (k_Ldue : PySem.W.keepIn K (.ref f_Ldue) = true) (b_Ldue : Binds K fd_Ldue ["_law_value"] []) {f_Lspoilt : Addr} {fd_Lspoilt : FuncData} (F_Lspoilt : FnG P w K mg base CX0 3 f_Lspoilt fd_Lspoilt ["_law_deck_here", "_law_text"] (liftSp K sp_Lspoilt)) (g_Lspoilt : mg "_law_spoilt" = some (.ref f_Lspoilt)) (k_Lspoilt : PySem.W.keepIn K (.ref f_Lspoilt) = true) (b_Lspoilt : Binds K fd_Lspoilt ["_law_deck_here", "_law_text"] []) {f_Lkinds_text : Addr} {fd_Lkinds_text : FuncData} (F_Lkinds_text : FnG P w K mg base CX0 2 f_Lkinds_text fd_Lkinds_text ["_law_kinds"] (liftSp K sp_kinds_text)) (g_Lkinds_text : mg "_law_kinds_text" = some (.ref f_Lkinds_text)) (k_Lkinds_text : PySem.W.keepIn K (.ref f_Lkinds_text) = true) (b_Lkinds_text : Binds K fd_Lkinds_text ["_law_kinds"] []) {f_Ldraw : Addr} {fd_Ldraw : FuncData} (F_Ldraw : FnG P w K mg base CX0 1 f_Ldraw fd_Ldraw ["_law_deck_here", "_law_many"] (liftSp K sp_Ldraw)) (g_Ldraw : mg "_law_draw" = some (.ref f_Ldraw)) (k_Ldraw : PySem.W.keepIn K (.ref f_Ldraw) = true) (b_Ldraw : Binds K fd_Ldraw ["_law_deck_here", "_law_many"] []) {f_Lwide : Addr} {fd_Lwide : FuncData} (F_Lwide : FnG P w K mg base CX0 4 f_Lwide fd_Lwide ["_law_deck_here", "_law_axes"] (liftSp K sp_Lwide)) (g_Lwide : mg "_law_wide" = some (.ref f_Lwide)) (k_Lwide : PySem.W.keepIn K (.ref f_Lwide) = true) (b_Lwide : Binds K fd_Lwide ["_law_deck_here", "_law_axes"] []) {f_Ldeck : Addr} {fd_Ldeck : FuncData} (F_Ldeck : FnG P w K mg base CX0 1 f_Ldeck fd_Ldeck ["_law_script"] (liftM K sp_Ldeck)) (g_Ldeck : mg "_law_deck" = some (.ref f_Ldeck)) (k_Ldeck : PySem.W.keepIn K (.ref f_Ldeck) = true) (b_Ldeck : Binds K fd_Ldeck ["_law_script"] []) : FnG P w K mg base CX0 7 f fd ["_law_script"] (liftSp K sp_law) := by
  have nd := sc_law.nd
  replace F_Lodd := F_Lodd.mono (show 3 ≤ 6 by decide)
  replace F_Ltold := F_Ltold.mono (show 6 ≤ 6 by decide)
  replace F_Ldue := F_Ldue.mono (show 4 ≤ 6 by decide)
  replace F_Lspoilt := F_Lspoilt.mono (show 3 ≤ 6 by decide)
  replace F_Lkinds_text := F_Lkinds_text.mono (show 2 ≤ 6 by decide)
  replace F_Ldraw := F_Ldraw.mono (show 1 ≤ 6 by decide)
  replace F_Lwide := F_Lwide.mono (show 4 ≤ 6 by decide)
  replace F_Ldeck := F_Ldeck.mono (show 1 ≤ 6 by decide)
  refine okD (wb := w_law) F sc_law ln_law (fun cdv A outer s H E hr => ?_) rd_law
  exact (jss_cons (jset 1 nd (jm_call (m := [true]) F_Ldeck hr rfl g_Ldeck k_Ldeck b_Ldeck (ja_cons (jv 0) ja_nil)))
    (jss_cons (js_for PassesOwn.never rfl (ji_range1 rfl z_range (ja_cons je_int ja_nil)) (jgn 2 nd) (jss_cons (jset 3 nd (jm_e (je_op d_addB je_int (je_call (m := [true, false]) F_Ldraw hr rfl g_Ldraw k_Ldraw b_Ldraw (ja_cons (jv 1) (ja_cons je_int ja_nil))))))
    (jss_cons (jset 4 nd (jm_e (je_call (m := []) F_Lkinds_text hr rfl g_Lkinds_text k_Lkinds_text b_Lkinds_text (ja_cons (je_ty c_tup rfl z_tuple boot_tuple (ja_cons (je_ofL (jl_comp (own := [("_law_k", 5)]) rfl nd (ji_range1 rfl z_range (ja_cons (je_op d_addB je_int (je_call (m := [true, false]) F_Ldraw hr rfl g_Ldraw k_Ldraw b_Ldraw (ja_cons (jv 1) (ja_cons je_int ja_nil)))) ja_nil)) (blkOk_by (by kernel_rfl)) (by decide) (fun _ _ _ _ _ => (jgn 5 nd)) (fun _ _ _ _ _ => jts_nil) (fun _ _ _ _ _ => (je_call (m := [true, false]) F_Lwide hr rfl g_Lwide k_Lwide b_Lwide (ja_cons (jv 1) (ja_cons (jv 3) ja_nil)))))) ja_nil)) ja_nil))))
    (jss_cons (jset 6 nd (jm_e (je_call (m := [true, false]) F_Lspoilt hr rfl g_Lspoilt k_Lspoilt b_Lspoilt (ja_cons (jv 1) (ja_cons (jv 4) ja_nil)))))
    (jss_cons (jset 7 nd (jm_e (je_ofL (jl_lst (ja_cons (jv 4) (ja_cons (jv 6) (ja_cons (je_call (m := [true, false]) F_Lspoilt hr rfl g_Lspoilt k_Lspoilt b_Lspoilt (ja_cons (jv 1) (ja_cons (jv 6) ja_nil))) (ja_cons (je_call (m := [true, false]) F_Lspoilt hr rfl g_Lspoilt k_Lspoilt b_Lspoilt (ja_cons (jv 1) (ja_cons (jv 4) ja_nil))) (ja_cons (je_op d_addB (je_op d_addB (jv 4) je_str) (jv 4)) (ja_cons (je_sl d_sl (jv 4) jo_none (jo_some (je_neg je_int))) (ja_cons (je_op d_addB (jv 4) je_str) ja_nil)))))))))))
    (jss_cons (jset 7 nd (jm_e (je_op d_addB (jv 7) (je_ofL (jl_lst (ja_cons je_str (ja_cons je_str (ja_cons je_str (ja_cons je_str (ja_cons je_str (ja_cons je_str (ja_cons je_str (ja_cons je_str (ja_cons je_str ja_nil))))))))))))))
    (jss_one (js_for PassesOwn.never rfl (ji_seq (je_op d_addB (jv 7) (je_ofL (jl_lst (ja_cons (je_call (m := [true]) F_Lodd hr rfl g_Lodd k_Lodd b_Lodd (ja_cons (jv 1) ja_nil)) (ja_cons je_non (ja_cons (je_ofL (jl_lst (ja_cons (jv 4) ja_nil))) ja_nil))))))) (jgn 8 nd) (jss_one (js_if (jt_cmp (d_ne hr.u64) (je_fn (c_reprN hr.gd hr.u64) rfl z_repr boot_repr (ja_cons (je_call (m := []) F_Ltold hr rfl g_Ltold k_Ltold b_Ltold (ja_cons (jv 8) ja_nil)) ja_nil)) (je_fn (c_reprN hr.gd hr.u64) rfl z_repr boot_repr (ja_cons (je_call (m := []) F_Ldue hr rfl g_Ldue k_Ldue b_Ldue (ja_cons (jv 8) ja_nil)) ja_nil))) (jss_one (js_ret je_bl)) jss_nil))))))))))
    (jss_one (js_ret je_bl))))
end K06
set_option Elab.async false
set_option linter.all false
set_option maxRecDepth 100000
set_option maxHeartbeats 4000000
namespace K06
open PySem PySem.Spec PyProof.Rows L2 DL TW
variable [DL.Tb]
theorem all_mk {l : PySem.W.OpenLaw} {w : World} {K : PySem.W.Frag} {h : Heap} {mg : Str → Option Value} {fa : Addr} (X : K.In h) (G : h.Ns mainGlobals mg) (hfa : mg "law" = some (.ref fa))
    {od_Ldeck an_Ldeck : Option Addr} {sl_Ldeck : Array (Option Value)} {oc_Ldeck kV_Ldeck dc_Ldeck pm_Ldeck cd_Ldeck ct_Ldeck : Value} {f_Ldeck : Addr}
    (a_Ldeck : PySem.W.nsIn K mainGlobals "_law_deck" = some (some (.ref f_Ldeck))) (l_Ldeck : K.lookup f_Ldeck = some ⟨oc_Ldeck, od_Ldeck, .func (PySem.W.fnOf "_law_deck" "_law_deck" (defArgs s_Ldeck) (defBody s_Ldeck) (defScope s_Ldeck) .none kV_Ldeck dc_Ldeck pm_Ldeck an_Ldeck cd_Ldeck ct_Ldeck), sl_Ldeck⟩) (c_Ldeck : PySem.W.codeIn K cd_Ldeck "_law_deck" = true) (k_Ldeck : PySem.W.keepIn K (.ref f_Ldeck) = true)
    {od_Ldraw an_Ldraw : Option Addr} {sl_Ldraw : Array (Option Value)} {oc_Ldraw kV_Ldraw dc_Ldraw pm_Ldraw cd_Ldraw ct_Ldraw : Value} {f_Ldraw : Addr}
    (a_Ldraw : PySem.W.nsIn K mainGlobals "_law_draw" = some (some (.ref f_Ldraw))) (l_Ldraw : K.lookup f_Ldraw = some ⟨oc_Ldraw, od_Ldraw, .func (PySem.W.fnOf "_law_draw" "_law_draw" (defArgs s_Ldraw) (defBody s_Ldraw) (defScope s_Ldraw) .none kV_Ldraw dc_Ldraw pm_Ldraw an_Ldraw cd_Ldraw ct_Ldraw), sl_Ldraw⟩) (c_Ldraw : PySem.W.codeIn K cd_Ldraw "_law_draw" = true) (k_Ldraw : PySem.W.keepIn K (.ref f_Ldraw) = true)
    {od_Lone an_Lone : Option Addr} {sl_Lone : Array (Option Value)} {oc_Lone kV_Lone dc_Lone pm_Lone cd_Lone ct_Lone : Value} {f_Lone : Addr}
    (a_Lone : PySem.W.nsIn K mainGlobals "_law_one" = some (some (.ref f_Lone))) (l_Lone : K.lookup f_Lone = some ⟨oc_Lone, od_Lone, .func (PySem.W.fnOf "_law_one" "_law_one" (defArgs s_Lone) (defBody s_Lone) (defScope s_Lone) .none kV_Lone dc_Lone pm_Lone an_Lone cd_Lone ct_Lone), sl_Lone⟩) (c_Lone : PySem.W.codeIn K cd_Lone "_law_one" = true) (k_Lone : PySem.W.keepIn K (.ref f_Lone) = true)
    {od_Lodd an_Lodd : Option Addr} {sl_Lodd : Array (Option Value)} {oc_Lodd kV_Lodd dc_Lodd pm_Lodd cd_Lodd ct_Lodd : Value} {f_Lodd : Addr}
    (a_Lodd : PySem.W.nsIn K mainGlobals "_law_odd" = some (some (.ref f_Lodd))) (l_Lodd : K.lookup f_Lodd = some ⟨oc_Lodd, od_Lodd, .func (PySem.W.fnOf "_law_odd" "_law_odd" (defArgs s_Lodd) (defBody s_Lodd) (defScope s_Lodd) .none kV_Lodd dc_Lodd pm_Lodd an_Lodd cd_Lodd ct_Lodd), sl_Lodd⟩) (c_Lodd : PySem.W.codeIn K cd_Lodd "_law_odd" = true) (k_Lodd : PySem.W.keepIn K (.ref f_Lodd) = true)
    {od_Lfar an_Lfar : Option Addr} {sl_Lfar : Array (Option Value)} {oc_Lfar kV_Lfar dc_Lfar pm_Lfar cd_Lfar ct_Lfar : Value} {f_Lfar : Addr}
    (a_Lfar : PySem.W.nsIn K mainGlobals "_law_far" = some (some (.ref f_Lfar))) (l_Lfar : K.lookup f_Lfar = some ⟨oc_Lfar, od_Lfar, .func (PySem.W.fnOf "_law_far" "_law_far" (defArgs s_Lfar) (defBody s_Lfar) (defScope s_Lfar) .none kV_Lfar dc_Lfar pm_Lfar an_Lfar cd_Lfar ct_Lfar), sl_Lfar⟩) (c_Lfar : PySem.W.codeIn K cd_Lfar "_law_far" = true) (k_Lfar : PySem.W.keepIn K (.ref f_Lfar) = true)
    {od_Lwide an_Lwide : Option Addr} {sl_Lwide : Array (Option Value)} {oc_Lwide kV_Lwide dc_Lwide pm_Lwide cd_Lwide ct_Lwide : Value} {f_Lwide : Addr}
    (a_Lwide : PySem.W.nsIn K mainGlobals "_law_wide" = some (some (.ref f_Lwide))) (l_Lwide : K.lookup f_Lwide = some ⟨oc_Lwide, od_Lwide, .func (PySem.W.fnOf "_law_wide" "_law_wide" (defArgs s_Lwide) (defBody s_Lwide) (defScope s_Lwide) .none kV_Lwide dc_Lwide pm_Lwide an_Lwide cd_Lwide ct_Lwide), sl_Lwide⟩) (c_Lwide : PySem.W.codeIn K cd_Lwide "_law_wide" = true) (k_Lwide : PySem.W.keepIn K (.ref f_Lwide) = true)
    {od_Lsides_text an_Lsides_text : Option Addr} {sl_Lsides_text : Array (Option Value)} {oc_Lsides_text kV_Lsides_text dc_Lsides_text pm_Lsides_text cd_Lsides_text ct_Lsides_text : Value} {f_Lsides_text : Addr}
    (a_Lsides_text : PySem.W.nsIn K mainGlobals "_law_sides_text" = some (some (.ref f_Lsides_text))) (l_Lsides_text : K.lookup f_Lsides_text = some ⟨oc_Lsides_text, od_Lsides_text, .func (PySem.W.fnOf "_law_sides_text" "_law_sides_text" (defArgs s_Lsides_text) (defBody s_Lsides_text) (defScope s_Lsides_text) .none kV_Lsides_text dc_Lsides_text pm_Lsides_text an_Lsides_text cd_Lsides_text ct_Lsides_text), sl_Lsides_text⟩) (c_Lsides_text : PySem.W.codeIn K cd_Lsides_text "_law_sides_text" = true) (k_Lsides_text : PySem.W.keepIn K (.ref f_Lsides_text) = true)
    {od_Lkinds_text an_Lkinds_text : Option Addr} {sl_Lkinds_text : Array (Option Value)} {oc_Lkinds_text kV_Lkinds_text dc_Lkinds_text pm_Lkinds_text cd_Lkinds_text ct_Lkinds_text : Value} {f_Lkinds_text : Addr}
    (a_Lkinds_text : PySem.W.nsIn K mainGlobals "_law_kinds_text" = some (some (.ref f_Lkinds_text))) (l_Lkinds_text : K.lookup f_Lkinds_text = some ⟨oc_Lkinds_text, od_Lkinds_text, .func (PySem.W.fnOf "_law_kinds_text" "_law_kinds_text" (defArgs s_Lkinds_text) (defBody s_Lkinds_text) (defScope s_Lkinds_text) .none kV_Lkinds_text dc_Lkinds_text pm_Lkinds_text an_Lkinds_text cd_Lkinds_text ct_Lkinds_text), sl_Lkinds_text⟩) (c_Lkinds_text : PySem.W.codeIn K cd_Lkinds_text "_law_kinds_text" = true) (k_Lkinds_text : PySem.W.keepIn K (.ref f_Lkinds_text) = true)
    {od_Lis_number an_Lis_number : Option Addr} {sl_Lis_number : Array (Option Value)} {oc_Lis_number kV_Lis_number dc_Lis_number pm_Lis_number cd_Lis_number ct_Lis_number : Value} {f_Lis_number : Addr}
    (a_Lis_number : PySem.W.nsIn K mainGlobals "_law_is_number" = some (some (.ref f_Lis_number))) (l_Lis_number : K.lookup f_Lis_number = some ⟨oc_Lis_number, od_Lis_number, .func (PySem.W.fnOf "_law_is_number" "_law_is_number" (defArgs s_Lis_number) (defBody s_Lis_number) (defScope s_Lis_number) .none kV_Lis_number dc_Lis_number pm_Lis_number an_Lis_number cd_Lis_number ct_Lis_number), sl_Lis_number⟩) (c_Lis_number : PySem.W.codeIn K cd_Lis_number "_law_is_number" = true) (k_Lis_number : PySem.W.keepIn K (.ref f_Lis_number) = true)
    {od_Lis_group an_Lis_group : Option Addr} {sl_Lis_group : Array (Option Value)} {oc_Lis_group kV_Lis_group dc_Lis_group pm_Lis_group cd_Lis_group ct_Lis_group : Value} {f_Lis_group : Addr}
    (a_Lis_group : PySem.W.nsIn K mainGlobals "_law_is_group" = some (some (.ref f_Lis_group))) (l_Lis_group : K.lookup f_Lis_group = some ⟨oc_Lis_group, od_Lis_group, .func (PySem.W.fnOf "_law_is_group" "_law_is_group" (defArgs s_Lis_group) (defBody s_Lis_group) (defScope s_Lis_group) .none kV_Lis_group dc_Lis_group pm_Lis_group an_Lis_group cd_Lis_group ct_Lis_group), sl_Lis_group⟩) (c_Lis_group : PySem.W.codeIn K cd_Lis_group "_law_is_group" = true) (k_Lis_group : PySem.W.keepIn K (.ref f_Lis_group) = true)
    {od_Lis_text an_Lis_text : Option Addr} {sl_Lis_text : Array (Option Value)} {oc_Lis_text kV_Lis_text dc_Lis_text pm_Lis_text cd_Lis_text ct_Lis_text : Value} {f_Lis_text : Addr}
    (a_Lis_text : PySem.W.nsIn K mainGlobals "_law_is_text" = some (some (.ref f_Lis_text))) (l_Lis_text : K.lookup f_Lis_text = some ⟨oc_Lis_text, od_Lis_text, .func (PySem.W.fnOf "_law_is_text" "_law_is_text" (defArgs s_Lis_text) (defBody s_Lis_text) (defScope s_Lis_text) .none kV_Lis_text dc_Lis_text pm_Lis_text an_Lis_text cd_Lis_text ct_Lis_text), sl_Lis_text⟩) (c_Lis_text : PySem.W.codeIn K cd_Lis_text "_law_is_text" = true) (k_Lis_text : PySem.W.keepIn K (.ref f_Lis_text) = true)
    {od_Ldue an_Ldue : Option Addr} {sl_Ldue : Array (Option Value)} {oc_Ldue kV_Ldue dc_Ldue pm_Ldue cd_Ldue ct_Ldue : Value} {f_Ldue : Addr}
    (a_Ldue : PySem.W.nsIn K mainGlobals "_law_due" = some (some (.ref f_Ldue))) (l_Ldue : K.lookup f_Ldue = some ⟨oc_Ldue, od_Ldue, .func (PySem.W.fnOf "_law_due" "_law_due" (defArgs s_Ldue) (defBody s_Ldue) (defScope s_Ldue) .none kV_Ldue dc_Ldue pm_Ldue an_Ldue cd_Ldue ct_Ldue), sl_Ldue⟩) (c_Ldue : PySem.W.codeIn K cd_Ldue "_law_due" = true) (k_Ldue : PySem.W.keepIn K (.ref f_Ldue) = true)
    {od_number_at an_number_at : Option Addr} {sl_number_at : Array (Option Value)} {oc_number_at kV_number_at dc_number_at pm_number_at cd_number_at ct_number_at : Value} {f_number_at : Addr}
    (a_number_at : PySem.W.nsIn K mainGlobals "number_at" = some (some (.ref f_number_at))) (l_number_at : K.lookup f_number_at = some ⟨oc_number_at, od_number_at, .func (PySem.W.fnOf "number_at" "number_at" (defArgs s_number_at) (defBody s_number_at) (defScope s_number_at) .none kV_number_at dc_number_at pm_number_at an_number_at cd_number_at ct_number_at), sl_number_at⟩) (c_number_at : PySem.W.codeIn K cd_number_at "number_at" = true) (k_number_at : PySem.W.keepIn K (.ref f_number_at) = true)
    {od_sides_at an_sides_at : Option Addr} {sl_sides_at : Array (Option Value)} {oc_sides_at kV_sides_at dc_sides_at pm_sides_at cd_sides_at ct_sides_at : Value} {f_sides_at : Addr}
    (a_sides_at : PySem.W.nsIn K mainGlobals "sides_at" = some (some (.ref f_sides_at))) (l_sides_at : K.lookup f_sides_at = some ⟨oc_sides_at, od_sides_at, .func (PySem.W.fnOf "sides_at" "sides_at" (defArgs s_sides_at) (defBody s_sides_at) (defScope s_sides_at) .none kV_sides_at dc_sides_at pm_sides_at an_sides_at cd_sides_at ct_sides_at), sl_sides_at⟩) (c_sides_at : PySem.W.codeIn K cd_sides_at "sides_at" = true) (k_sides_at : PySem.W.keepIn K (.ref f_sides_at) = true)
    {od_require_text an_require_text : Option Addr} {sl_require_text : Array (Option Value)} {oc_require_text kV_require_text dc_require_text pm_require_text cd_require_text ct_require_text : Value} {f_require_text : Addr}
    (a_require_text : PySem.W.nsIn K mainGlobals "require_text" = some (some (.ref f_require_text))) (l_require_text : K.lookup f_require_text = some ⟨oc_require_text, od_require_text, .func (PySem.W.fnOf "require_text" "require_text" (defArgs s_require_text) (defBody s_require_text) (defScope s_require_text) .none kV_require_text dc_require_text pm_require_text an_require_text cd_require_text ct_require_text), sl_require_text⟩) (c_require_text : PySem.W.codeIn K cd_require_text "require_text" = true) (k_require_text : PySem.W.keepIn K (.ref f_require_text) = true)
    {od_parse_kinds an_parse_kinds : Option Addr} {sl_parse_kinds : Array (Option Value)} {oc_parse_kinds kV_parse_kinds dc_parse_kinds pm_parse_kinds cd_parse_kinds ct_parse_kinds : Value} {f_parse_kinds : Addr}
    (a_parse_kinds : PySem.W.nsIn K mainGlobals "parse_kinds" = some (some (.ref f_parse_kinds))) (l_parse_kinds : K.lookup f_parse_kinds = some ⟨oc_parse_kinds, od_parse_kinds, .func (PySem.W.fnOf "parse_kinds" "parse_kinds" (defArgs s_parse_kinds) (defBody s_parse_kinds) (defScope s_parse_kinds) .none kV_parse_kinds dc_parse_kinds pm_parse_kinds an_parse_kinds cd_parse_kinds ct_parse_kinds), sl_parse_kinds⟩) (c_parse_kinds : PySem.W.codeIn K cd_parse_kinds "parse_kinds" = true) (k_parse_kinds : PySem.W.keepIn K (.ref f_parse_kinds) = true)
    {od_Ltold an_Ltold : Option Addr} {sl_Ltold : Array (Option Value)} {oc_Ltold kV_Ltold dc_Ltold pm_Ltold cd_Ltold ct_Ltold : Value} {f_Ltold : Addr}
    (a_Ltold : PySem.W.nsIn K mainGlobals "_law_told" = some (some (.ref f_Ltold))) (l_Ltold : K.lookup f_Ltold = some ⟨oc_Ltold, od_Ltold, .func (PySem.W.fnOf "_law_told" "_law_told" (defArgs s_Ltold) (defBody s_Ltold) (defScope s_Ltold) .none kV_Ltold dc_Ltold pm_Ltold an_Ltold cd_Ltold ct_Ltold), sl_Ltold⟩) (c_Ltold : PySem.W.codeIn K cd_Ltold "_law_told" = true) (k_Ltold : PySem.W.keepIn K (.ref f_Ltold) = true)
    {od_Lspoilt an_Lspoilt : Option Addr} {sl_Lspoilt : Array (Option Value)} {oc_Lspoilt kV_Lspoilt dc_Lspoilt pm_Lspoilt cd_Lspoilt ct_Lspoilt : Value} {f_Lspoilt : Addr}
    (a_Lspoilt : PySem.W.nsIn K mainGlobals "_law_spoilt" = some (some (.ref f_Lspoilt))) (l_Lspoilt : K.lookup f_Lspoilt = some ⟨oc_Lspoilt, od_Lspoilt, .func (PySem.W.fnOf "_law_spoilt" "_law_spoilt" (defArgs s_Lspoilt) (defBody s_Lspoilt) (defScope s_Lspoilt) .none kV_Lspoilt dc_Lspoilt pm_Lspoilt an_Lspoilt cd_Lspoilt ct_Lspoilt), sl_Lspoilt⟩) (c_Lspoilt : PySem.W.codeIn K cd_Lspoilt "_law_spoilt" = true) (k_Lspoilt : PySem.W.keepIn K (.ref f_Lspoilt) = true)
    {od_law an_law : Option Addr} {sl_law : Array (Option Value)} {oc_law kV_law dc_law pm_law cd_law ct_law : Value} {f_law : Addr}
    (a_law : PySem.W.nsIn K mainGlobals "law" = some (some (.ref f_law))) (l_law : K.lookup f_law = some ⟨oc_law, od_law, .func (PySem.W.fnOf "law" "law" (defArgs s_law) (defBody s_law) (defScope s_law) .none kV_law dc_law pm_law an_law cd_law ct_law), sl_law⟩) (c_law : PySem.W.codeIn K cd_law "law" = true) (k_law : PySem.W.keepIn K (.ref f_law) = true)
    (z_abs : PySem.W.nsIn K mainGlobals "abs" = some none)
    (z_len : PySem.W.nsIn K mainGlobals "len" = some none)
    (z_int : PySem.W.nsIn K mainGlobals "int" = some none)
    (z_range : PySem.W.nsIn K mainGlobals "range" = some none)
    (z_tuple : PySem.W.nsIn K mainGlobals "tuple" = some none)
    (z_str : PySem.W.nsIn K mainGlobals "str" = some none)
    (z_min : PySem.W.nsIn K mainGlobals "min" = some none)
    (z_isinstance : PySem.W.nsIn K mainGlobals "isinstance" = some none)
    (z_repr : PySem.W.nsIn K mainGlobals "repr" = some none)
    {t_MAX_SIDE : Tok} (v_MAX_SIDE : PySem.W.nsIn K mainGlobals "MAX_SIDE" = some (some (.int 1000000000000 t_MAX_SIDE)))
    {t_FIGURES : Tok} (v_FIGURES : PySem.W.nsIn K mainGlobals "FIGURES" = some (some (.str "0123456789" t_FIGURES)))
    {t_MAX_KINDS : Tok} (v_MAX_KINDS : PySem.W.nsIn K mainGlobals "MAX_KINDS" = some (some (.int 4 t_MAX_KINDS)))
    {t_MAX_DIMS : Tok} (v_MAX_DIMS : PySem.W.nsIn K mainGlobals "MAX_DIMS" = some (some (.int 4 t_MAX_DIMS)))
    {C_BadText : Addr} (ac_BadText : PySem.W.nsIn K mainGlobals "BadText" = some (some (.ref C_BadText)))
    (cf_BadText : CF K "BadText" C_BadText)
    (xc_BadText : ∀ base : Heap, XC1 l.prog w K mg base [("BadText", C_BadText)] "BadText" "place")
    {H_BadText : Addr} (ah_BadText : PySem.W.nsIn K mainGlobals "BadText" = some (some (.ref H_BadText)))
    (yc_BadText_BadText : PySem.W.exmOne K (.ref C_BadText) (.ref H_BadText) = some true)
    (fc_place_BadText : PySem.W.findIn K (.ref C_BadText) "place" = some none) :
    ∃ fd : FuncData, (∀ (s : Shared) (v : Value), BindsTo s fd ⟨[v], []⟩ [("_law_script", v)]) ∧ ∀ base : Heap, K.In base → base.Ns mainGlobals mg → FnG l.prog w K mg base CX0 7 fa fd ["_law_script"] (liftSp K spLaw) := by
  have e := hfa.symm.trans (PySem.W.mg_of X G a_law)
  cases e
  have F_Ldeck := fun_mk (st := s_Ldeck) l_Ldeck c_Ldeck k_Ldeck
  have b_Ldeck := F_Ldeck.binds (ps := ["_law_script"]) fun _ _ _ _ _ _ us hl => match us, hl with | [_], _ => rfl
  have F_Ldraw := fun_mk (st := s_Ldraw) l_Ldraw c_Ldraw k_Ldraw
  have b_Ldraw := F_Ldraw.binds (ps := ["_law_deck_here", "_law_many"]) fun _ _ _ _ _ _ us hl => match us, hl with | [_, _], _ => rfl
  have F_Lone := fun_mk (st := s_Lone) l_Lone c_Lone k_Lone
  have b_Lone := F_Lone.binds (ps := ["_law_deck_here", "_law_items"]) fun _ _ _ _ _ _ us hl => match us, hl with | [_, _], _ => rfl
  have F_Lodd := fun_mk (st := s_Lodd) l_Lodd c_Lodd k_Lodd
  have b_Lodd := F_Lodd.binds (ps := ["_law_deck_here"]) fun _ _ _ _ _ _ us hl => match us, hl with | [_], _ => rfl
  have F_Lfar := fun_mk (st := s_Lfar) l_Lfar c_Lfar k_Lfar
  have b_Lfar := F_Lfar.binds (ps := ["_law_deck_here"]) fun _ _ _ _ _ _ us hl => match us, hl with | [_], _ => rfl
  have F_Lwide := fun_mk (st := s_Lwide) l_Lwide c_Lwide k_Lwide
  have b_Lwide := F_Lwide.binds (ps := ["_law_deck_here", "_law_axes"]) fun _ _ _ _ _ _ us hl => match us, hl with | [_, _], _ => rfl
  have F_Lsides_text := fun_mk (st := s_Lsides_text) l_Lsides_text c_Lsides_text k_Lsides_text
  have b_Lsides_text := F_Lsides_text.binds (ps := ["_law_sides"]) fun _ _ _ _ _ _ us hl => match us, hl with | [_], _ => rfl
  have F_Lkinds_text := fun_mk (st := s_Lkinds_text) l_Lkinds_text c_Lkinds_text k_Lkinds_text
  have b_Lkinds_text := F_Lkinds_text.binds (ps := ["_law_kinds"]) fun _ _ _ _ _ _ us hl => match us, hl with | [_], _ => rfl
  have F_Lis_number := fun_mk (st := s_Lis_number) l_Lis_number c_Lis_number k_Lis_number
  have b_Lis_number := F_Lis_number.binds (ps := ["_law_word", "_law_is_whole"]) fun _ _ _ _ _ _ us hl => match us, hl with | [_, _], _ => rfl
  have F_Lis_group := fun_mk (st := s_Lis_group) l_Lis_group c_Lis_group k_Lis_group
  have b_Lis_group := F_Lis_group.binds (ps := ["_law_group", "_law_axes", "_law_is_whole"]) fun _ _ _ _ _ _ us hl => match us, hl with | [_, _, _], _ => rfl
  have F_Lis_text := fun_mk (st := s_Lis_text) l_Lis_text c_Lis_text k_Lis_text
  have b_Lis_text := F_Lis_text.binds (ps := ["_law_value", "_law_is_whole"]) fun _ _ _ _ _ _ us hl => match us, hl with | [_, _], _ => rfl
  have F_Ldue := fun_mk (st := s_Ldue) l_Ldue c_Ldue k_Ldue
  have b_Ldue := F_Ldue.binds (ps := ["_law_value"]) fun _ _ _ _ _ _ us hl => match us, hl with | [_], _ => rfl
  have F_number_at := fun_mk (st := s_number_at) l_number_at c_number_at k_number_at
  have b_number_at := F_number_at.binds (ps := ["text", "at"]) fun _ _ _ _ _ _ us hl => match us, hl with | [_, _], _ => rfl
  have F_sides_at := fun_mk (st := s_sides_at) l_sides_at c_sides_at k_sides_at
  have b_sides_at := F_sides_at.binds (ps := ["text", "at", "most"]) fun _ _ _ _ _ _ us hl => match us, hl with | [_, _, _], _ => rfl
  have F_require_text := fun_mk (st := s_require_text) l_require_text c_require_text k_require_text
  have b_require_text := F_require_text.binds (ps := ["value"]) fun _ _ _ _ _ _ us hl => match us, hl with | [_], _ => rfl
  have F_parse_kinds := fun_mk (st := s_parse_kinds) l_parse_kinds c_parse_kinds k_parse_kinds
  have b_parse_kinds := F_parse_kinds.binds (ps := ["value"]) fun _ _ _ _ _ _ us hl => match us, hl with | [_], _ => rfl
  have F_Ltold := fun_mk (st := s_Ltold) l_Ltold c_Ltold k_Ltold
  have b_Ltold := F_Ltold.binds (ps := ["_law_value"]) fun _ _ _ _ _ _ us hl => match us, hl with | [_], _ => rfl
  have F_Lspoilt := fun_mk (st := s_Lspoilt) l_Lspoilt c_Lspoilt k_Lspoilt
  have b_Lspoilt := F_Lspoilt.binds (ps := ["_law_deck_here", "_law_text"]) fun _ _ _ _ _ _ us hl => match us, hl with | [_, _], _ => rfl
  have F_law := fun_mk (st := s_law) l_law c_law k_law
  refine ⟨PySem.W.fnOf "law" "law" (defArgs s_law) (defBody s_law) (defScope s_law) .none kV_law dc_law pm_law an_law cd_law ct_law, fun s v => .of_eq rfl, fun base _ _ => ?_⟩
  have O_Ldeck := ok_Ldeck (P := l.prog) (w := w) (base := base) (mg := mg) F_Ldeck (PySem.W.mg_none_of X G z_abs) (PySem.W.mg_none_of X G z_len)
  have O_Ldraw := ok_Ldraw (P := l.prog) (w := w) (base := base) (mg := mg) F_Ldraw (PySem.W.mg_none_of X G z_int) (PySem.W.mg_none_of X G z_len)
  have O_Lsides_text := ok_Lsides_text (P := l.prog) (w := w) (base := base) (mg := mg) F_Lsides_text (PySem.W.mg_none_of X G z_str)
  have O_Lis_number := ok_Lis_number (P := l.prog) (w := w) (base := base) (mg := mg) F_Lis_number (PySem.W.mg_none_of X G z_int) (PySem.W.mg_none_of X G z_len)
  have O_Lone := ok_Lone (P := l.prog) (w := w) (base := base) (mg := mg) F_Lone (PySem.W.mg_none_of X G z_len) O_Ldraw (PySem.W.mg_of X G a_Ldraw) k_Ldraw b_Ldraw
  have O_Lkinds_text := ok_Lkinds_text (P := l.prog) (w := w) (base := base) (mg := mg) F_Lkinds_text O_Lsides_text (PySem.W.mg_of X G a_Lsides_text) k_Lsides_text b_Lsides_text
  have O_Lis_group := ok_Lis_group (P := l.prog) (w := w) (base := base) (mg := mg) F_Lis_group (PySem.W.mg_none_of X G z_len) (PySem.W.mg_none_of X G z_min) O_Lis_number (PySem.W.mg_of X G a_Lis_number) k_Lis_number b_Lis_number
  have O_Lodd := ok_Lodd (P := l.prog) (w := w) (base := base) (mg := mg) F_Lodd O_Lone (PySem.W.mg_of X G a_Lone) k_Lone b_Lone
  have O_Lfar := ok_Lfar (P := l.prog) (w := w) (base := base) (mg := mg) F_Lfar O_Lone (PySem.W.mg_of X G a_Lone) k_Lone b_Lone O_Ldraw (PySem.W.mg_of X G a_Ldraw) k_Ldraw b_Ldraw
  have O_Lis_text := ok_Lis_text (P := l.prog) (w := w) (base := base) (mg := mg) F_Lis_text (PySem.W.mg_none_of X G z_len) O_Lis_group (PySem.W.mg_of X G a_Lis_group) k_Lis_group b_Lis_group
  have O_number_at := ok_number_at (TL := [("BadText", C_BadText)]) (P := l.prog) (w := w) (base := base) (mg := mg) F_number_at (PySem.W.mg_none_of X G z_int) (PySem.W.mg_none_of X G z_len) (PySem.W.mg_of X G v_MAX_SIDE) (PySem.W.mg_of X G v_FIGURES) (xc_BadText base)
  have O_require_text := ok_require_text (TL := [("BadText", C_BadText)]) (P := l.prog) (w := w) (base := base) (mg := mg) F_require_text (PySem.W.mg_none_of X G z_isinstance) (PySem.W.mg_none_of X G z_str) (xc_BadText base)
  have O_Lspoilt := ok_Lspoilt (P := l.prog) (w := w) (base := base) (mg := mg) F_Lspoilt (PySem.W.mg_none_of X G z_len) O_Lone (PySem.W.mg_of X G a_Lone) k_Lone b_Lone O_Ldraw (PySem.W.mg_of X G a_Ldraw) k_Ldraw b_Ldraw
  have O_Lwide := ok_Lwide (P := l.prog) (w := w) (base := base) (mg := mg) F_Lwide (PySem.W.mg_none_of X G z_range) (PySem.W.mg_none_of X G z_tuple) O_Lfar (PySem.W.mg_of X G a_Lfar) k_Lfar b_Lfar
  have O_Ldue := ok_Ldue (P := l.prog) (w := w) (base := base) (mg := mg) F_Ldue (PySem.W.mg_none_of X G z_len) (PySem.W.mg_none_of X G z_range) (PySem.W.mg_none_of X G z_int) (PySem.W.mg_none_of X G z_tuple) (PySem.W.mg_none_of X G z_isinstance) (PySem.W.mg_none_of X G z_str) O_Lis_text (PySem.W.mg_of X G a_Lis_text) k_Lis_text b_Lis_text
  have O_sides_at := ok_sides_at (TL := [("BadText", C_BadText)]) (P := l.prog) (w := w) (base := base) (mg := mg) F_sides_at (PySem.W.mg_none_of X G z_tuple) (PySem.W.mg_none_of X G z_len) O_number_at (PySem.W.mg_of X G a_number_at) k_number_at b_number_at
  have O_parse_kinds := ok_parse_kinds (TL := [("BadText", C_BadText)]) (P := l.prog) (w := w) (base := base) (mg := mg) F_parse_kinds (PySem.W.mg_none_of X G z_tuple) (PySem.W.mg_none_of X G z_len) (PySem.W.mg_of X G v_MAX_KINDS) (PySem.W.mg_of X G v_MAX_DIMS) O_sides_at (PySem.W.mg_of X G a_sides_at) k_sides_at b_sides_at O_require_text (PySem.W.mg_of X G a_require_text) k_require_text b_require_text (xc_BadText base)
  have O_Ltold := ok_Ltold (TL := [("BadText", C_BadText)]) (P := l.prog) (w := w) (base := base) (mg := mg) F_Ltold O_parse_kinds (PySem.W.mg_of X G a_parse_kinds) k_parse_kinds b_parse_kinds (allT_of ⟨cf_BadText, trivial⟩) ⟨_, PySem.W.mg_of X G ah_BadText, allT_of (p := fun n C => PySem.W.exmOne K (.ref C) _ = some true) ⟨yc_BadText_BadText, trivial⟩⟩ (allT_of ⟨fc_place_BadText, trivial⟩)
  have O_law := ok_law (P := l.prog) (w := w) (base := base) (mg := mg) F_law (PySem.W.mg_none_of X G z_range) (PySem.W.mg_none_of X G z_repr) (PySem.W.mg_none_of X G z_tuple) O_Lodd (PySem.W.mg_of X G a_Lodd) k_Lodd b_Lodd O_Ltold (PySem.W.mg_of X G a_Ltold) k_Ltold b_Ltold O_Ldue (PySem.W.mg_of X G a_Ldue) k_Ldue b_Ldue O_Lspoilt (PySem.W.mg_of X G a_Lspoilt) k_Lspoilt b_Lspoilt O_Lkinds_text (PySem.W.mg_of X G a_Lkinds_text) k_Lkinds_text b_Lkinds_text O_Ldraw (PySem.W.mg_of X G a_Ldraw) k_Ldraw b_Ldraw O_Lwide (PySem.W.mg_of X G a_Lwide) k_Lwide b_Lwide O_Ldeck (PySem.W.mg_of X G a_Ldeck) k_Ldeck b_Ldeck
  exact O_law
end K06
open PySem PySem.W PyProof.Rows
set_option maxHeartbeats 0 in
theorem PySem.Challenge.cw_twobricks_k06_texts_of_no_kinds_holds : PySem.Challenge.rw_twobricks_k06_texts_of_no_kinds.Holds := by
  w_on; o_law; k_head; (case hw => w_witness2)
  k_fill
  refine DL.walkG (l := PySem.Challenge.rw_twobricks_k06_texts_of_no_kinds) (n := 63) (k := 7) (x := "_law_script") (sp := fun K => DL.liftSp K DL.spLaw) rfl (by decide) rfl ⟨rfl, by decide, by decide⟩ (fun w h Y => PySem.W.kIn_of Y) ?F (fun _ _ a ns hl _ hS => DL.law_start hS)
  case F =>
    intro w mg fa h KX G hmg
    refine' K06.all_mk KX G hmg ?a_Ldeck ?l_Ldeck ?c_Ldeck ?k_Ldeck ?a_Ldraw ?l_Ldraw ?c_Ldraw ?k_Ldraw ?a_Lone ?l_Lone ?c_Lone ?k_Lone ?a_Lodd ?l_Lodd ?c_Lodd ?k_Lodd ?a_Lfar ?l_Lfar ?c_Lfar ?k_Lfar ?a_Lwide ?l_Lwide ?c_Lwide ?k_Lwide ?a_Lsides_text ?l_Lsides_text ?c_Lsides_text ?k_Lsides_text ?a_Lkinds_text ?l_Lkinds_text ?c_Lkinds_text ?k_Lkinds_text ?a_Lis_number ?l_Lis_number ?c_Lis_number ?k_Lis_number ?a_Lis_group ?l_Lis_group ?c_Lis_group ?k_Lis_group ?a_Lis_text ?l_Lis_text ?c_Lis_text ?k_Lis_text ?a_Ldue ?l_Ldue ?c_Ldue ?k_Ldue ?a_number_at ?l_number_at ?c_number_at ?k_number_at ?a_sides_at ?l_sides_at ?c_sides_at ?k_sides_at ?a_require_text ?l_require_text ?c_require_text ?k_require_text ?a_parse_kinds ?l_parse_kinds ?c_parse_kinds ?k_parse_kinds ?a_Ltold ?l_Ltold ?c_Ltold ?k_Ltold ?a_Lspoilt ?l_Lspoilt ?c_Lspoilt ?k_Lspoilt ?a_law ?l_law ?c_law ?k_law ?z_abs ?z_len ?z_int ?z_range ?z_tuple ?z_str ?z_min ?z_isinstance ?z_repr ?v_MAX_SIDE ?v_FIGURES ?v_MAX_KINDS ?v_MAX_DIMS ?ac_BadText ?cf_BadText ?xc_BadText ?ah_BadText ?yc_BadText_BadText ?fc_place_BadText
    (case a_Ldeck => k_is); (case l_Ldeck => k_is); (case c_Ldeck => k_is); (case k_Ldeck => k_is); (case a_Ldraw => k_is); (case l_Ldraw => k_is); (case c_Ldraw => k_is); (case k_Ldraw => k_is); (case a_Lone => k_is); (case l_Lone => k_is); (case c_Lone => k_is); (case k_Lone => k_is); (case a_Lodd => k_is); (case l_Lodd => k_is); (case c_Lodd => k_is); (case k_Lodd => k_is); (case a_Lfar => k_is); (case l_Lfar => k_is); (case c_Lfar => k_is); (case k_Lfar => k_is); (case a_Lwide => k_is); (case l_Lwide => k_is); (case c_Lwide => k_is); (case k_Lwide => k_is); (case a_Lsides_text => k_is); (case l_Lsides_text => k_is); (case c_Lsides_text => k_is); (case k_Lsides_text => k_is); (case a_Lkinds_text => k_is); (case l_Lkinds_text => k_is); (case c_Lkinds_text => k_is); (case k_Lkinds_text => k_is); (case a_Lis_number => k_is); (case l_Lis_number => k_is); (case c_Lis_number => k_is); (case k_Lis_number => k_is); (case a_Lis_group => k_is); (case l_Lis_group => k_is); (case c_Lis_group => k_is); (case k_Lis_group => k_is); (case a_Lis_text => k_is); (case l_Lis_text => k_is); (case c_Lis_text => k_is); (case k_Lis_text => k_is); (case a_Ldue => k_is); (case l_Ldue => k_is); (case c_Ldue => k_is); (case k_Ldue => k_is); (case a_number_at => k_is); (case l_number_at => k_is); (case c_number_at => k_is); (case k_number_at => k_is); (case a_sides_at => k_is); (case l_sides_at => k_is); (case c_sides_at => k_is); (case k_sides_at => k_is); (case a_require_text => k_is); (case l_require_text => k_is); (case c_require_text => k_is); (case k_require_text => k_is); (case a_parse_kinds => k_is); (case l_parse_kinds => k_is); (case c_parse_kinds => k_is); (case k_parse_kinds => k_is); (case a_Ltold => k_is); (case l_Ltold => k_is); (case c_Ltold => k_is); (case k_Ltold => k_is); (case a_Lspoilt => k_is); (case l_Lspoilt => k_is); (case c_Lspoilt => k_is); (case k_Lspoilt => k_is); (case a_law => k_is); (case l_law => k_is); (case c_law => k_is); (case k_law => k_is); (case z_abs => k_is); (case z_len => k_is); (case z_int => k_is); (case z_range => k_is); (case z_tuple => k_is); (case z_str => k_is); (case z_min => k_is); (case z_isinstance => k_is); (case z_repr => k_is); (case v_MAX_SIDE => k_is); (case v_FIGURES => k_is); (case v_MAX_KINDS => k_is); (case v_MAX_DIMS => k_is); (case ac_BadText => k_is); (case cf_BadText => (refine' DL.cf_mk ?uBadText_lc ?uBadText_bmv ?uBadText_c ?uBadText_cn ?uBadText_sa ?uBadText_exC ?uBadText_tyC ?uBadText_kC ?uBadText_ga ?uBadText_gg ?uBadText_hd ?uBadText_ha ?uBadText_hn ?uBadText_ht ?uBadText_hm; (case uBadText_lc => k_is); (case uBadText_bmv => first | rfl | kernel_rfl); (case uBadText_c => k_is); (case uBadText_cn => rfl); (case uBadText_sa => k_is); (case uBadText_exC => k_is); (case uBadText_tyC => k_is); (case uBadText_kC => k_is); (case uBadText_ga => k_is); (case uBadText_gg => k_is); (case uBadText_hd => k_is); (case uBadText_ha => k_is); (case uBadText_hn => k_is); (case uBadText_ht => k_is); (case uBadText_hm => k_is))); (case xc_BadText => (intro base; refine' DL.xc1_mk KX G ?vBadText_hT ?vBadText_F ?vBadText_a ?vBadText_c ?vBadText_sub ?vBadText_opq ?vBadText_ini ?vBadText_ve ?vBadText_iC ?vBadText_tI ?vBadText_lk ?vBadText_hcd ?vBadText_hcode ?vBadText_hvs ?vBadText_hfile ?vBadText_hcell ?vBadText_hsm ?vBadText_S ?vBadText_hp ?vBadText_har ?vBadText_hnd ?vBadText_hks ?vBadText_htop ?vBadText_hst ?vBadText_hev ?vBadText_hsw ?vBadText_hin ?vBadText_hsw2 ?vBadText_hf ?vBadText_hdx ?vBadText_hdc ?vBadText_hb; (case vBadText_a => k_is); (case vBadText_hT => simp); (case vBadText_F => (refine' DL.cf_mk ?vBadText_w0_lc ?vBadText_w0_bmv ?vBadText_w0_c ?vBadText_w0_cn ?vBadText_w0_sa ?vBadText_w0_exC ?vBadText_w0_tyC ?vBadText_w0_kC ?vBadText_w0_ga ?vBadText_w0_gg ?vBadText_w0_hd ?vBadText_w0_ha ?vBadText_w0_hn ?vBadText_w0_ht ?vBadText_w0_hm; (case vBadText_w0_lc => k_is); (case vBadText_w0_bmv => first | rfl | kernel_rfl); (case vBadText_w0_c => k_is); (case vBadText_w0_cn => rfl); (case vBadText_w0_sa => k_is); (case vBadText_w0_exC => k_is); (case vBadText_w0_tyC => k_is); (case vBadText_w0_kC => k_is); (case vBadText_w0_ga => k_is); (case vBadText_w0_gg => k_is); (case vBadText_w0_hd => k_is); (case vBadText_w0_ha => k_is); (case vBadText_w0_hn => k_is); (case vBadText_w0_ht => k_is); (case vBadText_w0_hm => k_is))); (case vBadText_c => k_is); (case vBadText_sub => k_is); (case vBadText_opq => k_is); (case vBadText_ini => first | rfl | kernel_rfl); (case vBadText_ve => k_is); (case vBadText_iC => k_is); (case vBadText_tI => k_is); (case vBadText_lk => k_is); (case vBadText_hcd => k_is); (case vBadText_hcode => k_is); (case vBadText_hvs => rfl); (case vBadText_hfile => first | rfl | kernel_rfl); (case vBadText_hcell => k_is); (case vBadText_hsm => k_is); (case vBadText_S => decide +kernel); (case vBadText_hp => rfl); (case vBadText_har => rfl); (case vBadText_hnd => decide); (case vBadText_hks => rfl); (case vBadText_htop => first | rfl | kernel_rfl); (case vBadText_hst => intro L; rfl); (case vBadText_hev => intro L; exact ⟨_, rfl⟩); (case vBadText_hsw => intro L; rfl); (case vBadText_hin => intro L; rfl); (case vBadText_hsw2 => intro L; rfl); (case vBadText_hf => k_is); (case vBadText_hdx => decide); (case vBadText_hdc => decide); (case vBadText_hb => intro us hl; exact match us, hl with | [_, _], _ => rfl))); (case ah_BadText => k_is); (case yc_BadText_BadText => first | rfl | kernel_rfl); (case fc_place_BadText => k_is)
