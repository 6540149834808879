import PyProof.Rows.All
import Wide.All
import OpenK.AllK
import Wide.FinOn
import PyProof.EqAt
import PyProof.EqKinds
import PyProof.TupleCall
import HandS.ForMost
import HandS.Lambda
import HandS.Defaults
import HandS.Gcd
import HandS.Wide
import HandS.IsInst
import HandS.Zip
import HandS.Rev
import HandS.RevRange
import HandS.TupMul
import HandS.TupAny
import HandS.Style
import HandS.Flow
import HandS.Deep
import HandS.HeadHook2
import HandS.Set
import HandS.SetFor
import PyProof.ListNew
import HandS.TupSets
import HandS.Strs
import HandS.EndTab
import KE.SortKeyHeap
import KE.KLam
import KE.KSortKey
import KE.KDictDisplayH
import KE.GoesEnum
import KE.GoesZip
import KE.GoesMore
import HandS.Head3
import HandS.HeadHook4
import HandS.HeadEnd
import HandS.HeadWalk
import PySem.Challenge.RW_everychange_k37_whole_same_rows_by_all_r
set_option Elab.async false
set_option linter.all false
set_option maxRecDepth 100000
set_option maxHeartbeats 4100000
namespace K37
open PySem PySem.Spec L2 PyProof.Rows

/-! ### heaps: all stays but the tables of code objects -/
def IsTbl : HO → Prop
  | .tbl _ => True
  | _ => False
def Ex (H H' : Hp) : Prop := ∀ a o, H a = some o → H' a = some o ∨ (IsTbl o ∧ ∃ u, H' a = some u ∧ IsTbl u)
def Le (G G' : Hp) : Prop := ∀ a o, G a = some o → G' a = some o
structure Sub (G H : Hp) : Prop where
  le : Le G H
  nt : ∀ a o, G a = some o → ¬ IsTbl o
abbrev Tb := List (Addr × Str)
/-- from (G, H) to (G', H'): G the part that is data -/
structure Gw (T : Tb) (G H G' H' : Hp) : Prop where
  ex : Ex H H'
  le : Le G G'
  sub : Sub G' H'
  fresh : ∀ a o, G' a = some o → G a = some o ∨ H a = none
  tabs : LamX.Tabs T H → LamX.Tabs T H'
theorem Ex.refl (H : Hp) : Ex H H := fun _ _ h => .inl h
theorem Ex.trans {A B C : Hp} (x : Ex A B) (y : Ex B C) : Ex A C := fun a o h => by
  rcases x a o h with h1 | ⟨t, u, h1, t1⟩
  · exact y a o h1
  · rcases y a u h1 with h2 | ⟨_, w, h2, t2⟩
    · exact .inr ⟨t, u, h2, t1⟩
    · exact .inr ⟨t, w, h2, t2⟩
theorem Ex.none_of {A B : Hp} (x : Ex A B) {a : Addr} (h : B a = none) : A a = none := by
  cases e : A a with
  | none => rfl
  | some o =>
    rcases x a o e with h1 | ⟨_, u, h1, _⟩ <;> (rw [h] at h1; cases h1)
theorem Le.refl (H : Hp) : Le H H := fun _ _ h => h
theorem Le.trans {A B C : Hp} (x : Le A B) (y : Le B C) : Le A C := fun a o h => y a o (x a o h)
theorem Le.none_of {A B : Hp} (x : Le A B) {a : Addr} (h : B a = none) : A a = none := by
  cases e : A a with
  | none => rfl
  | some o =>
    have := x a o e
    rw [h] at this; cases this
theorem Le.ex {A B : Hp} (x : Le A B) : Ex A B := fun a o h => .inl (x a o h)
theorem Le.upd {H : Hp} {p : Addr} {o : HO} (h : H p = none) : Le H (upd H p o) := fun a u e => by
  rw [upd_ne (ne_of_none e h)]; exact e
theorem Gw.refl {T : Tb} {G H : Hp} (s : Sub G H) : Gw T G H G H := ⟨.refl _, .refl _, s, fun _ _ h => .inl h, fun h => h⟩
theorem Gw.trans {T : Tb} {G H G1 H1 G2 H2 : Hp} (x : Gw T G H G1 H1) (y : Gw T G1 H1 G2 H2) : Gw T G H G2 H2 :=
  ⟨x.ex.trans y.ex, x.le.trans y.le, y.sub, fun a o h => by
    rcases y.fresh a o h with h1 | h1
    · exact x.fresh a o h1
    · exact .inr (x.ex.none_of h1), fun h => y.tabs (x.tabs h)⟩
theorem tabs_le {T : Tb} {H H' : Hp} (l : Le H H') (t : LamX.Tabs T H) : LamX.Tabs T H' := t.ext l
/-- a new object of data -/
theorem Gw.new {T : Tb} {G H : Hp} {p : Addr} {o : HO} (s : Sub G H) (hp : H p = none) (ho : ¬ IsTbl o) : Gw T G H (upd G p o) (upd H p o) := by
  have gp : G p = none := s.le.none_of hp
  refine ⟨(Le.upd hp).ex, Le.upd gp, ⟨fun a u e => ?_, fun a u e => ?_⟩, fun a u e => ?_, tabs_le (Le.upd hp)⟩
  · by_cases h : a = p
    · subst h; rw [upd_same] at e ⊢; exact e
    · rw [upd_ne h] at e ⊢; exact s.le a u e
  · by_cases h : a = p
    · subst h; rw [upd_same] at e; cases e; exact ho
    · rw [upd_ne h] at e; exact s.nt a u e
  · by_cases h : a = p
    · subst h; exact .inr hp
    · rw [upd_ne h] at e; exact .inl e
/-- a new object that is not data (yet) -/
theorem Gw.newH {T : Tb} {G H : Hp} {p : Addr} {o : HO} (s : Sub G H) (hp : H p = none) : Gw T G H G (upd H p o) :=
  ⟨(Le.upd hp).ex, .refl _, ⟨s.le.trans (Le.upd hp), s.nt⟩, fun _ _ h => .inl h, tabs_le (Le.upd hp)⟩
theorem Gw.keep {T : Tb} {G H G' H' : Hp} (x : Gw T G H G' H') {p : Addr} {o : HO} (h : H p = some o) (ho : ¬ IsTbl o) : H' p = some o := by
  rcases x.ex p o h with h1 | ⟨t, _⟩
  · exact h1
  · exact absurd t ho
theorem Gw.out {T : Tb} {G H G' H' : Hp} (x : Gw T G H G' H') {p : Addr} {o : HO} (h : H p = some o) (g : G p = none) : G' p = none := by
  cases e : G' p with
  | none => rfl
  | some u =>
    rcases x.fresh p u e with h1 | h1
    · rw [g] at h1; cases h1
    · rw [h] at h1; cases h1
/-- an object of one's own, made since (G0, H0), is changed -/
theorem Gw.mut {T : Tb} {G0 H0 G H : Hp} {p : Addr} {xs ys : List V} (x : Gw T G0 H0 G H) (h0 : H0 p = none) (g : G p = none) (h : H p = some (.lst xs)) : Gw T G0 H0 G (upd H p (.lst ys)) := by
  refine ⟨fun a o e => ?_, x.le, ⟨fun a o e => ?_, x.sub.nt⟩, x.fresh, fun t => ?_⟩
  · have hn : a ≠ p := ne_of_none e h0
    rcases x.ex a o e with h1 | ⟨t, u, h1, t1⟩
    · exact .inl (by rw [upd_ne hn]; exact h1)
    · exact .inr ⟨t, u, by rw [upd_ne hn]; exact h1, t1⟩
  · rw [upd_ne (ne_of_none e g)]; exact x.sub.le a o e
  · have t1 := x.tabs t
    intro q hq
    obtain ⟨ps, e1, e2, e3⟩ := t1 q hq
    have n1 : q.1 ≠ p := ne_of e1 h (by intro z; cases z)
    refine ⟨ps, by rw [upd_ne n1]; exact e1, e2, fun pos cv hc => ?_⟩
    obtain ⟨c, e4, e5⟩ := e3 pos cv hc
    have n2 : c ≠ p := ne_of e5 h (by unfold LamX.CodeO; intro z; cases z)
    exact ⟨c, e4, by rw [upd_ne n2]; exact e5⟩

/-! ### data -/
mutual
inductive Dq (K : PySem.W.Frag) (G : Hp) : V → PyData → Prop
  | non : Dq K G .non .none
  | bl (b : Bool) : Dq K G (.bl b) (.bool b)
  | int (i : Int) : Dq K G (.int i) (.int i)
  | lst {a : Addr} {xs : List V} {ds : List PyData} : G a = some (.lst xs) → DqAll K G xs ds → Dq K G (.ref a) (.list ds)
  | tup {a : Addr} {xs : List V} {ds : List PyData} : SqT K G a xs → DqAll K G xs ds → Dq K G (.ref a) (.tuple ds)
inductive DqAll (K : PySem.W.Frag) (G : Hp) : List V → List PyData → Prop
  | nil : DqAll K G [] []
  | cons {v : V} {vs : List V} {d : PyData} {ds : List PyData} : Dq K G v d → DqAll K G vs ds → DqAll K G (v :: vs) (d :: ds)
end
section
variable {K : PySem.W.Frag} {G G' H : Hp}
theorem sqt_le (l : Le G G') {a : Addr} {xs : List V} (h : SqT K G a xs) : SqT K G' a xs := by
  rcases h with (h | h) | h
  · exact .inl (.inl (l _ _ h))
  · exact .inl (.inr (h.imp fun _ q => l _ _ q))
  · exact .inr h
mutual
theorem Dq.le (l : Le G G') : ∀ {d : PyData} {v : V}, Dq K G v d → Dq K G' v d
  | .none, _, h => by cases h; exact .non
  | .bool _, _, h => by cases h; exact .bl _
  | .int _, _, h => by cases h; exact .int _
  | .list _, _, h => by cases h with | lst e a => exact .lst (l _ _ e) (DqAll.le l a)
  | .tuple _, _, h => by cases h with | tup e a => exact .tup (sqt_le l e) (DqAll.le l a)
  | .str _, _, h => by cases h
  | .dict _, _, h => by cases h
theorem DqAll.le (l : Le G G') : ∀ {ds : List PyData} {vs : List V}, DqAll K G vs ds → DqAll K G' vs ds
  | [], _, h => by cases h; exact .nil
  | _ :: _, _, h => by cases h with | cons a b => exact .cons (Dq.le l a) (DqAll.le l b)
end
mutual
theorem Dq.dp (l : Le G H) : ∀ {d : PyData} {v : V}, Dq K G v d → Dp K H v d
  | .none, _, h => by cases h; exact .non
  | .bool _, _, h => by cases h; exact .bl _
  | .int _, _, h => by cases h; exact .int _
  | .list _, _, h => by cases h with | lst e a => exact .lst (SqL.of (l _ _ e)) (DqAll.dp l a)
  | .tuple _, _, h => by cases h with | tup e a => exact .tup (sqt_le l e) (DqAll.dp l a)
  | .str _, _, h => by cases h
  | .dict _, _, h => by cases h
theorem DqAll.dp (l : Le G H) : ∀ {ds : List PyData} {vs : List V}, DqAll K G vs ds → DpAll K H vs ds
  | [], _, h => by cases h; exact .nil
  | _ :: _, _, h => by cases h with | cons a b => exact .cons (Dq.dp l a) (DqAll.dp l b)
end
theorem DqAll.length : ∀ {ds : List PyData} {vs : List V}, DqAll K G vs ds → vs.length = ds.length
  | [], _, h => by cases h; rfl
  | _ :: _, _, h => by cases h with | cons a b => simp [DqAll.length b]
theorem DqAll.get : ∀ {ds : List PyData} {vs : List V} {i : Nat} {d : PyData}, DqAll K G vs ds → ds[i]? = some d → ∃ v, vs[i]? = some v ∧ Dq K G v d
  | [], _, _, _, _, e => by simp at e
  | d :: ds, _, 0, x, h, e => by
    cases h with | cons a b =>
      have : d = x := by simpa using e
      subst this
      exact ⟨_, rfl, a⟩
  | d :: ds, _, i + 1, x, h, e => by
    cases h with | cons a b =>
      obtain ⟨v, h1, h2⟩ := DqAll.get (i := i) b (by simpa using e)
      exact ⟨v, by simpa using h1, h2⟩
theorem DqAll.getv : ∀ {ds : List PyData} {vs : List V} {i : Nat} {v : V}, DqAll K G vs ds → vs[i]? = some v → ∃ d, ds[i]? = some d ∧ Dq K G v d
  | [], _, _, _, h, e => by cases h; simp at e
  | d :: ds, _, 0, x, h, e => by
    cases h with | cons a b =>
      simp at e; subst e
      exact ⟨_, rfl, a⟩
  | d :: ds, _, i + 1, x, h, e => by
    cases h with | cons a b =>
      obtain ⟨v, h1, h2⟩ := DqAll.getv (i := i) b (by simpa using e)
      exact ⟨v, by simpa using h1, h2⟩
theorem DqAll.append : ∀ {ds es : List PyData} {vs ws : List V}, DqAll K G vs ds → DqAll K G ws es → DqAll K G (vs ++ ws) (ds ++ es)
  | [], _, _, _, h, g => by cases h; exact g
  | _ :: _, _, _, _, h, g => by cases h with | cons a b => exact .cons a (DqAll.append b g)
theorem DqAll.take : ∀ {ds : List PyData} {vs : List V} (n : Nat), DqAll K G vs ds → DqAll K G (vs.take n) (ds.take n)
  | _, _, 0, _ => by simp; exact .nil
  | [], _, n + 1, h => by cases h; exact .nil
  | _ :: _, _, n + 1, h => by cases h with | cons a b => exact .cons a (DqAll.take n b)
theorem DqAll.drop : ∀ {ds : List PyData} {vs : List V} (n : Nat), DqAll K G vs ds → DqAll K G (vs.drop n) (ds.drop n)
  | _, _, 0, h => by simpa using h
  | [], _, n + 1, h => by cases h; exact .nil
  | _ :: _, _, n + 1, h => by cases h with | cons a b => exact DqAll.drop n b
theorem DqAll.set {v : V} {d : PyData} (x : Dq K G v d) : ∀ {ds : List PyData} {vs : List V} (n : Nat), DqAll K G vs ds → DqAll K G (vs.set n v) (ds.set n d)
  | [], _, _, h => by cases h; exact .nil
  | _ :: _, _, 0, h => by cases h with | cons a b => exact .cons x b
  | _ :: _, _, n + 1, h => by cases h with | cons a b => exact .cons a (DqAll.set x n b)
theorem DqAll.dropLast {ds : List PyData} {vs : List V} (h : DqAll K G vs ds) : DqAll K G vs.dropLast ds.dropLast := by
  rw [List.dropLast_eq_take, List.dropLast_eq_take, h.length]
  exact h.take _
theorem DqAll.erase : ∀ {ds : List PyData} {vs : List V} (n : Nat), DqAll K G vs ds → DqAll K G (vs.eraseIdx n) (ds.eraseIdx n)
  | [], _, _, h => by cases h; exact .nil
  | _ :: _, _, 0, h => by cases h with | cons a b => exact b
  | _ :: _, _, n + 1, h => by cases h with | cons a b => exact .cons a (DqAll.erase n b)
theorem DqAll.reverse : ∀ {ds : List PyData} {vs : List V}, DqAll K G vs ds → DqAll K G vs.reverse ds.reverse
  | [], _, h => by cases h; exact .nil
  | _ :: _, _, h => by
    cases h with | cons a b =>
      simp only [List.reverse_cons]
      exact (DqAll.reverse b).append (.cons a .nil)
theorem DqAll.rep {ds : List PyData} {vs : List V} (h : DqAll K G vs ds) : ∀ k : Nat, DqAll K G (List.replicate k vs).flatten (List.replicate k ds).flatten
  | 0 => .nil
  | k + 1 => by
    simp only [List.replicate_succ, List.flatten_cons]
    exact h.append (DqAll.rep h k)
theorem DqAll.ints {ns : List Int} {vs : List V} (h : DqAll K G vs (ns.map PyData.int)) : vs = ns.map V.int := by
  induction ns generalizing vs with
  | nil => cases h; rfl
  | cons n r ih =>
    cases h with | cons a b =>
      cases a
      rw [ih b]; rfl
theorem dqInts : ∀ ns : List Int, DqAll K G (ns.map V.int) (ns.map PyData.int)
  | [] => .nil
  | n :: r => .cons (.int n) (dqInts r)
theorem dqBools : ∀ bs : List Bool, DqAll K G (bs.map V.bl) (bs.map PyData.bool)
  | [] => .nil
  | b :: r => .cons (.bl b) (dqBools r)
theorem DqAll.bools {bs : List Bool} {vs : List V} (h : DqAll K G vs (bs.map PyData.bool)) : vs = bs.map V.bl := by
  induction bs generalizing vs with
  | nil => cases h; rfl
  | cons n r ih =>
    cases h with | cons a b =>
      cases a
      rw [ih b]; rfl
end

/-! ### slots -/
inductive Sl where
  | any
  | dat (d : PyData)
  | own (ds : List PyData)
  | dic (i j : Int) (d : PyData)
  | urn (p : Addr) (ds : List PyData)
  | cel (q a b : Addr) (ds es : List PyData)
  | scr (a : Addr) (ns : List Int)
/-- a list that stood there before, changed in place since -/
def Bc (H0 G H : Hp) (p : Addr) (vs : List V) : Prop := H p = some (.lst vs) ∧ H0 p = some (.lst vs) ∧ G p = none
theorem Bc.gw {T : Tb} {H0 G H G' H' : Hp} {p : Addr} {vs : List V} (h : Bc H0 G H p vs) (g : Gw T G H G' H') : Bc H0 G' H' p vs :=
  ⟨g.keep h.1 fun z => z, h.2.1, g.out h.1 h.2.2⟩
/-- a list that was there from the start, read alone -/
def Sc (K : PySem.W.Frag) (H0 H : Hp) (a : Addr) (xs : List V) : Prop := SqL K H0 a xs ∧ SqL K H a xs
theorem sql_le {K : PySem.W.Frag} {H H' : Hp} {a : Addr} {xs : List V} (h : SqL K H a xs) (l : ∀ o, H a = some o → ¬ IsTbl o → H' a = some o) : SqL K H' a xs := by
  rcases h with ((h | ⟨o, h⟩) | h)
  · exact .inl (.inl (l _ h fun z => z))
  · exact .inl (.inr ⟨o, l _ h fun z => z⟩)
  · exact .inr h
theorem Sc.put {K : PySem.W.Frag} {H0 H : Hp} {a r : Addr} {xs : List V} {o : HO} (h : Sc K H0 H a xs) (hr : H0 r = none) : Sc K H0 (upd H r o) a xs := by
  obtain ⟨h0, h1⟩ := h
  refine ⟨h0, ?_⟩
  have ne : ∀ u, H0 a = some u → a ≠ r := fun u e z => by subst z; rw [hr] at e; cases e
  rcases h0 with (h | ⟨u, h⟩) | h
  · exact sql_le h1 fun o e _ => by rw [upd_ne (ne _ h)]; exact e
  · exact sql_le h1 fun o e _ => by rw [upd_ne (ne _ h)]; exact e
  · exact .inr h
theorem Bc.put {H0 G H : Hp} {p r : Addr} {vs : List V} {o : HO} (h : Bc H0 G H p vs) (hr : H0 r = none) : Bc H0 G (upd H r o) p vs := by
  have hne : p ≠ r := fun z => by subst z; have := h.2.1; rw [hr] at this; cases this
  exact ⟨by rw [upd_ne hne]; exact h.1, h.2.1, h.2.2⟩
theorem Bc.putG {H0 G H : Hp} {p r : Addr} {vs : List V} {o : HO} (h : Bc H0 G H p vs) (hr : H0 r = none) : Bc H0 (upd G r o) H p vs := by
  have hne : p ≠ r := fun z => by subst z; have := h.2.1; rw [hr] at this; cases this
  exact ⟨h.1, h.2.1, by rw [upd_ne hne]; exact h.2.2⟩
def SlOk (K : PySem.W.Frag) (H0 G H : Hp) (o : Option V) : Sl → Prop
  | .any => True
  | .dat d => ∃ v, o = some v ∧ Dq K G v d
  | .own ds => ∃ p vs, o = some (.ref p) ∧ H0 p = none ∧ G p = none ∧ H p = some (.lst vs) ∧ DqAll K G vs ds
  | .dic i j d => ∃ a v, o = some (.ref a) ∧ H a = some (.dT [([.inl i, .inl j], v)]) ∧ Dq K G v d
  | .urn p ds => o = some (.ref p) ∧ ∃ vs, Bc H0 G H p vs ∧ DqAll K G vs ds
  | .cel q a b ds es => o = some (.ref q) ∧ (q ≠ a ∧ q ≠ b ∧ a ≠ b) ∧ Bc H0 G H q [.ref a, .ref b] ∧ ∃ va vb, (Bc H0 G H a va ∧ DqAll K G va ds) ∧ (Bc H0 G H b vb ∧ DqAll K G vb es)
  | .scr a ns => o = some (.ref a) ∧ Sc K H0 H a (ns.map V.int)
structure En (K : PySem.W.Frag) (H0 G H : Hp) (σ : L2.St) (ρ : List Sl) : Prop where
  len : σ.length = ρ.length
  ok : ∀ (i : Nat) (s : Sl), ρ[i]? = some s → ∃ o, σ[i]? = some o ∧ SlOk K H0 G H o s
  sep : ∀ (i j : Nat) (di dj : List PyData) (p : Addr), i ≠ j → ρ[i]? = some (.own di) → ρ[j]? = some (.own dj) → σ[i]? = some (some (.ref p)) → σ[j]? = some (some (.ref p)) → False
section
variable {T : Tb} {K : PySem.W.Frag} {H0 G H G' H' : Hp} {σ : L2.St} {ρ : List Sl}
theorem SlOk.gw {o : Option V} {s : Sl} (h : SlOk K H0 G H o s) (g : Gw T G H G' H') : SlOk K H0 G' H' o s := by
  cases s with
  | any => trivial
  | dat d =>
    obtain ⟨v, e, q⟩ := h
    exact ⟨v, e, q.le g.le⟩
  | own ds =>
    obtain ⟨p, vs, e, h0, hg, hp, q⟩ := h
    exact ⟨p, vs, e, h0, g.out hp hg, g.keep hp (fun z => z), q.le g.le⟩
  | dic i j d =>
    obtain ⟨a, v, e, ha, q⟩ := h
    exact ⟨a, v, e, g.keep ha (fun z => z), q.le g.le⟩
  | urn p ds =>
    obtain ⟨e, vs, b, q⟩ := h
    exact ⟨e, vs, b.gw g, q.le g.le⟩
  | cel q a b ds es =>
    obtain ⟨e, n, b0, va, vb, ⟨b1, q1⟩, b2, q2⟩ := h
    exact ⟨e, n, b0.gw g, va, vb, ⟨b1.gw g, q1.le g.le⟩, b2.gw g, q2.le g.le⟩
  | scr a ns => exact ⟨h.1, h.2.1, sql_le h.2.2 fun o e n => g.keep e n⟩
theorem En.gw (x : En K H0 G H σ ρ) (g : Gw T G H G' H') : En K H0 G' H' σ ρ :=
  ⟨x.len, fun i s e => let ⟨o, e1, q⟩ := x.ok i s e; ⟨o, e1, q.gw g⟩, x.sep⟩
theorem En.dat (x : En K H0 G H σ ρ) {i : Nat} {d : PyData} (e : ρ[i]? = some (.dat d)) : ∃ v, σ[i]? = some (some v) ∧ Dq K G v d := by
  obtain ⟨o, e1, v, e2, q⟩ := x.ok i _ e
  subst e2
  exact ⟨v, e1, q⟩
theorem En.own (x : En K H0 G H σ ρ) {i : Nat} {ds : List PyData} (e : ρ[i]? = some (.own ds)) : ∃ p vs, σ[i]? = some (some (.ref p)) ∧ H0 p = none ∧ G p = none ∧ H p = some (.lst vs) ∧ DqAll K G vs ds := by
  obtain ⟨o, e1, p, vs, e2, q⟩ := x.ok i _ e
  subst e2
  exact ⟨p, vs, e1, q⟩
theorem En.lt (x : En K H0 G H σ ρ) {i : Nat} {s : Sl} (e : ρ[i]? = some s) : i < σ.length := by
  obtain ⟨o, e1, _⟩ := x.ok i s e
  exact (List.getElem?_eq_some_iff.mp e1).1
theorem En.set (x : En K H0 G H σ ρ) (i : Nat) {o : Option V} {s : Sl} (h : SlOk K H0 G H o s)
    (hs : ∀ ds, s = .own ds → ∀ p, o = some (.ref p) → ∀ (j : Nat) (dj : List PyData), j ≠ i → ρ[j]? = some (.own dj) → σ[j]? ≠ some (some (.ref p))) : En K H0 G H (σ.set i o) (ρ.set i s) := by
  refine ⟨by simp [x.len], fun j t e => ?_, fun j k dj dk p hjk ej ek sj sk => ?_⟩
  · by_cases hj : i = j
    · subst hj
      by_cases hl : i < ρ.length
      · rw [List.getElem?_set_self hl] at e
        cases e
        exact ⟨o, List.getElem?_set_self (by rw [x.len]; exact hl), h⟩
      · rw [List.getElem?_eq_none (by simpa using hl)] at e; cases e
    · rw [List.getElem?_set_ne hj] at e ⊢
      exact x.ok j t e
  · by_cases hj : i = j
    · subst hj
      by_cases hl : i < ρ.length
      · rw [List.getElem?_set_self hl] at ej
        rw [List.getElem?_set_self (by rw [x.len]; exact hl)] at sj
        rw [List.getElem?_set_ne hjk] at ek sk
        exact hs dj (Option.some.inj ej) p (Option.some.inj sj) k dk (Ne.symm hjk) ek sk
      · rw [List.getElem?_eq_none (by simpa using hl)] at ej; cases ej
    · rw [List.getElem?_set_ne hj] at ej sj
      by_cases hk : i = k
      · subst hk
        by_cases hl : i < ρ.length
        · rw [List.getElem?_set_self hl] at ek
          rw [List.getElem?_set_self (by rw [x.len]; exact hl)] at sk
          exact hs dk (Option.some.inj ek) p (Option.some.inj sk) j dj (Ne.symm hj) ej sj
        · rw [List.getElem?_eq_none (by simpa using hl)] at ek; cases ek
      · rw [List.getElem?_set_ne hk] at ek sk
        exact x.sep j k dj dk p hjk ej ek sj sk
theorem En.setDat (x : En K H0 G H σ ρ) (i : Nat) {v : V} {d : PyData} (q : Dq K G v d) : En K H0 G H (σ.set i (some v)) (ρ.set i (.dat d)) :=
  x.set i ⟨v, rfl, q⟩ fun ds e => by cases e
theorem En.setAny (x : En K H0 G H σ ρ) (i : Nat) (o : Option V) : En K H0 G H (σ.set i o) (ρ.set i .any) :=
  x.set i trivial fun ds e => by cases e
theorem En.setOwn (x : En K H0 G H σ ρ) (i : Nat) {p : Addr} {vs : List V} {ds : List PyData} (h0 : H0 p = none) (g : G p = none) (h : H p = some (.lst vs)) (q : DqAll K G vs ds)
    (hn : ∀ (j : Nat) (dj : List PyData), j ≠ i → ρ[j]? = some (.own dj) → σ[j]? ≠ some (some (.ref p))) : En K H0 G H (σ.set i (some (.ref p))) (ρ.set i (.own ds)) :=
  x.set i ⟨p, vs, rfl, h0, g, h, q⟩ fun ds' _ p' e j dj hj ej => by
    have : p = p' := by injection e with e; injection e
    subst this
    exact hn j dj hj ej
/-- the own list in slot i is changed -/
theorem En.mut (x : En K H0 G H σ ρ) {i : Nat} {ds es : List PyData} {p : Addr} {vs ws : List V} (e : ρ[i]? = some (.own ds)) (es_ : σ[i]? = some (some (.ref p))) (h : H p = some (.lst vs)) (q : DqAll K G ws es) : En K H0 G (upd H p (.lst ws)) σ (ρ.set i (.own es)) := by
  obtain ⟨p', vs', e1, h0, g, h1, _⟩ := x.own e
  rw [es_] at e1
  have : p = p' := by injection e1 with e1; injection e1 with e1; injection e1
  subst this
  have hl : i < ρ.length := (List.getElem?_eq_some_iff.mp e).1
  refine ⟨by simp [x.len], fun j t ej => ?_, fun j k dj dk p2 hjk ej ek sj sk => ?_⟩
  · by_cases hj : i = j
    · subst hj
      rw [List.getElem?_set_self hl] at ej
      cases ej
      exact ⟨_, es_, p, ws, rfl, h0, g, upd_same, q⟩
    · rw [List.getElem?_set_ne hj] at ej
      obtain ⟨o, e2, q2⟩ := x.ok j t ej
      refine ⟨o, e2, ?_⟩
      cases t with
      | any => trivial
      | dat d => exact q2
      | own dj =>
        obtain ⟨pj, vj, e3, h3, g3, h4, q3⟩ := q2
        have hne : pj ≠ p := fun z => by
          subst z; subst e3
          exact x.sep i j ds dj pj hj e ej es_ e2
        exact ⟨pj, vj, e3, h3, g3, by rw [upd_ne hne]; exact h4, q3⟩
      | dic i2 j2 d2 =>
        obtain ⟨a, v, e3, h3, q3⟩ := q2
        have hne : a ≠ p := ne_of h3 h1 (fun z => nomatch z)
        exact ⟨a, v, e3, by rw [upd_ne hne]; exact h3, q3⟩
      | urn p2 d2 =>
        obtain ⟨e3, v3, b3, q3⟩ := q2
        exact ⟨e3, v3, b3.put h0, q3⟩
      | cel q2' a2 b2 d2 f2 =>
        obtain ⟨e3, n, b0, va, vb, ⟨b1, q1⟩, b2, q2⟩ := q2
        exact ⟨e3, n, b0.put h0, va, vb, ⟨b1.put h0, q1⟩, b2.put h0, q2⟩
      | scr a ns => exact ⟨q2.1, q2.2.put h0⟩
  · have f : ∀ {l : Nat} {d : List PyData}, (ρ.set i (.own es))[l]? = some (.own d) → ∃ d', ρ[l]? = some (.own d') := fun {l d} z => by
      by_cases hli : i = l
      · subst hli; exact ⟨ds, e⟩
      · rw [List.getElem?_set_ne hli] at z; exact ⟨d, z⟩
    obtain ⟨d1, a1⟩ := f ej
    obtain ⟨d2, a2⟩ := f ek
    exact x.sep j k d1 d2 p2 hjk a1 a2 sj sk
/-- the own list in slot i is handed out: it is data from now on -/
theorem En.share (x : En K H0 G H σ ρ) {i : Nat} {ds : List PyData} (e : ρ[i]? = some (.own ds)) : ∃ p vs, H0 p = none ∧ G p = none ∧ H p = some (.lst vs) ∧ En K H0 (upd G p (.lst vs)) H σ (ρ.set i (.dat (.list ds))) := by
  obtain ⟨p, vs, e1, h0, g, h, q⟩ := x.own e
  have hl : i < ρ.length := (List.getElem?_eq_some_iff.mp e).1
  have l := Le.upd (o := HO.lst vs) g
  refine ⟨p, vs, h0, g, h, ⟨by simp [x.len], fun j t ej => ?_, fun j k dj dk p2 hjk ej ek sj sk => ?_⟩⟩
  · by_cases hj : i = j
    · subst hj
      rw [List.getElem?_set_self hl] at ej
      cases ej
      exact ⟨_, e1, .ref p, rfl, .lst upd_same (q.le l)⟩
    · rw [List.getElem?_set_ne hj] at ej
      obtain ⟨o, e2, q2⟩ := x.ok j t ej
      refine ⟨o, e2, ?_⟩
      cases t with
      | any => trivial
      | dat d =>
        obtain ⟨v, e3, q3⟩ := q2
        exact ⟨v, e3, q3.le l⟩
      | own dj =>
        obtain ⟨pj, vj, e3, h3, g3, h4, q3⟩ := q2
        have hne : pj ≠ p := fun z => by
          subst z; subst e3
          exact x.sep i j ds dj pj hj e ej e1 e2
        exact ⟨pj, vj, e3, h3, by rw [upd_ne hne]; exact g3, h4, q3.le l⟩
      | dic i2 j2 d2 =>
        obtain ⟨a, v, e3, h3, q3⟩ := q2
        exact ⟨a, v, e3, h3, q3.le l⟩
      | urn p2 d2 =>
        obtain ⟨e3, v3, b3, q3⟩ := q2
        exact ⟨e3, v3, b3.putG h0, q3.le l⟩
      | cel q2' a2 b2 d2 f2 =>
        obtain ⟨e3, n, b0, va, vb, ⟨b1, q1⟩, b2, q2⟩ := q2
        exact ⟨e3, n, b0.putG h0, va, vb, ⟨b1.putG h0, q1.le l⟩, b2.putG h0, q2.le l⟩
      | scr a ns => exact q2
  · have f : ∀ {l : Nat} {d : List PyData}, (ρ.set i (.dat (.list ds)))[l]? = some (.own d) → ρ[l]? = some (.own d) := fun {l d} z => by
      by_cases hli : i = l
      · subst hli; rw [List.getElem?_set_self hl] at z; cases z
      · rw [List.getElem?_set_ne hli] at z; exact z
    exact x.sep j k dj dk p2 hjk (f ej) (f ek) sj sk
/-- knowing less -/
def Sl.le : Sl → Sl → Prop
  | _, .any => True
  | a, b => a = b
theorem En.weak (x : En K H0 G H σ ρ) {ρ' : List Sl} (hl : ρ'.length = ρ.length) (h : ∀ (i : Nat) (s : Sl), ρ'[i]? = some s → s = .any ∨ ρ[i]? = some s) : En K H0 G H σ ρ' := by
  refine ⟨by rw [hl]; exact x.len, fun i s e => ?_, fun i j di dj p hij ei ej => ?_⟩
  · rcases h i s e with z | z
    · subst z
      have hi : i < σ.length := by rw [x.len, ← hl]; exact (List.getElem?_eq_some_iff.mp e).1
      exact ⟨σ[i], List.getElem?_eq_getElem hi, trivial⟩
    · exact x.ok i s z
  · have a : ρ[i]? = some (.own di) := (h i _ ei).resolve_left (fun z => by cases z)
    have b : ρ[j]? = some (.own dj) := (h j _ ej).resolve_left (fun z => by cases z)
    exact x.sep i j di dj p hij a b
end
def wipeL (ρ : List Sl) : List Nat → List Sl
  | [] => ρ
  | v :: vs => (wipeL ρ vs).set v .any
theorem En.wipe {K : PySem.W.Frag} {H0 G H : Hp} {σ : L2.St} {ρ : List Sl} (x : En K H0 G H σ ρ) : ∀ vs : List Nat, En K H0 G H (wipe σ vs) (wipeL ρ vs)
  | [] => x
  | v :: vs => (En.wipe x vs).setAny v none
theorem wipe_set {σ : L2.St} {j : Nat} {o : Option V} : ∀ {vs : List Nat}, j ∈ vs → wipe (σ.set j o) vs = wipe σ vs
  | [], h => by cases h
  | v :: vs, h => by
    show (wipe (σ.set j o) vs).set v none = (wipe σ vs).set v none
    by_cases hv : j ∈ vs
    · rw [wipe_set hv]
    · have e : j = v := by simpa [hv] using h
      subst e
      have : ∀ (ws : List Nat), j ∉ ws → wipe (σ.set j o) ws = (wipe σ ws).set j o := by
        intro ws
        induction ws with
        | nil => intro _; rfl
        | cons w ws ih =>
          intro hw
          have h1 : j ≠ w := fun z => hw (by simp [z])
          have h2 : j ∉ ws := fun z => hw (List.mem_cons_of_mem _ z)
          show (wipe (σ.set j o) ws).set w none = ((wipe σ ws).set w none).set j o
          rw [ih h2, List.set_comm _ _ h1]
      rw [this vs hv, List.set_set]
theorem wipe_wipe {σ : L2.St} (vs : List Nat) : wipe (wipe σ vs) vs = wipe σ vs := by
  have : ∀ ws : List Nat, (∀ w ∈ ws, w ∈ vs) → wipe (wipe σ ws) vs = wipe σ vs := by
    intro ws
    induction ws with
    | nil => intro _; rfl
    | cons w ws ih =>
      intro h
      show wipe ((wipe σ ws).set w none) vs = wipe σ vs
      rw [wipe_set (h w (by simp)), ih fun z hz => h z (List.mem_cons_of_mem _ hz)]
  exact this vs fun _ h => h
end K37
namespace K37
open PySem PySem.Spec L2

def isNo : PyData → Bool
  | .none => true
  | _ => false
/-! ### what a reading gives -/
def EvD (T : Tb) (K : PySem.W.Frag) (te : TE) (ρ : List Sl) (d : PyData) : Prop :=
  ∀ H0 G H σ, Sub G H → LamX.Tabs T H → En K H0 G H σ ρ → ∀ Q : VK, (∀ v G' H', Gw T G H G' H' → Dq K G' v d → Q v H') → te σ H Q
/-- a new list, not data yet -/
def EvF (T : Tb) (K : PySem.W.Frag) (te : TE) (ρ : List Sl) (ds : List PyData) : Prop :=
  ∀ H0 G H σ, Sub G H → LamX.Tabs T H → En K H0 G H σ ρ → ∀ Q : VK, (∀ p vs G' H', Gw T G H G' H' → H p = none → G' p = none → H' p = some (.lst vs) → DqAll K G' vs ds → Q (.ref p) H') → te σ H Q
def TeD (T : Tb) (K : PySem.W.Frag) (tt : TT) (ρ : List Sl) (b : Bool) : Prop :=
  ∀ H0 G H σ, Sub G H → LamX.Tabs T H → En K H0 G H σ ρ → ∀ Q : Bool → Hp → Prop, (∀ G' H', Gw T G H G' H' → Q b H') → tt σ H Q
def EvDs (T : Tb) (K : PySem.W.Frag) (ta : TA) (ρ : List Sl) (ds : List PyData) : Prop :=
  ∀ H0 G H σ, Sub G H → LamX.Tabs T H → En K H0 G H σ ρ → ∀ Q : List V → Hp → Prop, (∀ vs G' H', Gw T G H G' H' → DqAll K G' vs ds → Q vs H') → ta σ H Q
def EvO (T : Tb) (K : PySem.W.Frag) (to : TO) (ρ : List Sl) (o : Option Int) : Prop :=
  ∀ H0 G H σ, Sub G H → LamX.Tabs T H → En K H0 G H σ ρ → ∀ Q : Option Int → Hp → Prop, (∀ G' H', Gw T G H G' H' → Q o H') → to σ H Q
def OpD (T : Tb) (K : PySem.W.Frag) (r : R2) (a b c : PyData) : Prop :=
  ∀ G H v w, Sub G H → LamX.Tabs T H → Dq K G v a → Dq K G w b → ∀ Q : VK, (∀ u G' H', Gw T G H G' H' → Dq K G' u c → Q u H') → r v w H Q
def UnD (T : Tb) (K : PySem.W.Frag) (r : V → Hp → VK → Prop) (a c : PyData) : Prop :=
  ∀ G H v, Sub G H → LamX.Tabs T H → Dq K G v a → ∀ Q : VK, (∀ u G' H', Gw T G H G' H' → Dq K G' u c → Q u H') → r v H Q
def CbD (T : Tb) (K : PySem.W.Frag) (r : List V → Hp → VK → Prop) (ds : List PyData) (c : PyData) : Prop :=
  ∀ G H vs, Sub G H → LamX.Tabs T H → DqAll K G vs ds → ∀ Q : VK, (∀ u G' H', Gw T G H G' H' → Dq K G' u c → Q u H') → r vs H Q
/-- .. a new list -/
def CbF (T : Tb) (K : PySem.W.Frag) (r : List V → Hp → VK → Prop) (ds : List PyData) (es : List PyData) : Prop :=
  ∀ G H vs, Sub G H → LamX.Tabs T H → DqAll K G vs ds → ∀ Q : VK, (∀ p us G' H', Gw T G H G' H' → H p = none → G' p = none → H' p = some (.lst us) → DqAll K G' us es → Q (.ref p) H') → r vs H Q
def OpF (T : Tb) (K : PySem.W.Frag) (r : R2) (a b : PyData) (es : List PyData) : Prop :=
  ∀ G H v w, Sub G H → LamX.Tabs T H → Dq K G v a → Dq K G w b → ∀ Q : VK, (∀ p us G' H', Gw T G H G' H' → H p = none → G' p = none → H' p = some (.lst us) → DqAll K G' us es → Q (.ref p) H') → r v w H Q
section
variable {T : Tb} {K : PySem.W.Frag} {ρ : List Sl} {ta tb te : TE} {a b c d : PyData} {t u : TT} {r : R2}
theorem Gw.listen {G H G' H' : Hp} (g : Gw T G H G' H') {p : Addr} {vs : List V} (hp : H p = none) (gp : G' p = none) (h : H' p = some (.lst vs)) : Gw T G H (upd G' p (.lst vs)) H' := by
  refine ⟨g.ex, g.le.trans (Le.upd gp), ⟨fun a o e => ?_, fun a o e => ?_⟩, fun a o e => ?_, g.tabs⟩
  · by_cases z : a = p
    · subst z; rw [upd_same] at e; cases e; exact h
    · rw [upd_ne z] at e; exact g.sub.le a o e
  · by_cases z : a = p
    · subst z; rw [upd_same] at e; cases e; exact fun q => q
    · rw [upd_ne z] at e; exact g.sub.nt a o e
  · by_cases z : a = p
    · subst z; exact .inr hp
    · rw [upd_ne z] at e; exact g.fresh a o e
theorem dq_list {G : Hp} {p : Addr} {vs : List V} {ds : List PyData} (gp : G p = none) (q : DqAll K G vs ds) : Dq K (upd G p (.lst vs)) (.ref p) (.list ds) := .lst upd_same (q.le (Le.upd gp))
theorem EvF.ev {ds : List PyData} (h : EvF T K te ρ ds) : EvD T K te ρ (.list ds) := fun H0 G H σ s t x Q q =>
  h H0 G H σ s t x Q fun p vs G' H' g hp gp hl ha => q _ _ _ (g.listen hp gp hl) (dq_list gp ha)
theorem OpF.ev {es : List PyData} (h : OpF T K r a b es) : OpD T K r a b (.list es) := fun G H v w s t x y Q q =>
  h G H v w s t x y Q fun p vs G' H' g hp gp hl ha => q _ _ _ (g.listen hp gp hl) (dq_list gp ha)
theorem CbF.ev {r : List V → Hp → VK → Prop} {ds es : List PyData} (h : CbF T K r ds es) : CbD T K r ds (.list es) := fun G H vs s t x Q q =>
  h G H vs s t x Q fun p vs G' H' g hp gp hl ha => q _ _ _ (g.listen hp gp hl) (dq_list gp ha)
theorem EvD.is (h : EvD T K te ρ a) (e : a = b) : EvD T K te ρ b := e ▸ h
theorem EvF.is {ds es : List PyData} (h : EvF T K te ρ ds) (e : ds = es) : EvF T K te ρ es := e ▸ h
theorem TeD.is {x y : Bool} (h : TeD T K t ρ x) (e : x = y) : TeD T K t ρ y := e ▸ h
theorem OpD.is (h : OpD T K r a b c) (e : c = d) : OpD T K r a b d := e ▸ h

/-! ### names, constants -/
theorem evd_var {i : Nat} (e : ρ[i]? = some (.dat d)) : EvD T K (tVar i) ρ d := fun H0 G H σ s t x Q q => by
  obtain ⟨v, e1, q1⟩ := x.dat e
  exact ⟨v, e1, q v G H (.refl s) q1⟩
theorem evd_int {i : Int} : EvD T K (tC (.int i)) ρ (.int i) := fun H0 G H σ s t x Q q => q _ _ _ (.refl s) (.int i)
theorem evd_bl {i : Bool} : EvD T K (tC (.bl i)) ρ (.bool i) := fun H0 G H σ s t x Q q => q _ _ _ (.refl s) (.bl i)
theorem evd_non : EvD T K (tC .non) ρ .none := fun H0 G H σ s t x Q q => q _ _ _ (.refl s) .non
/-- a constant of the module -/
def tCst (K : PySem.W.Frag) (d : PyData) : TE := fun _ H Q => ∀ v, (∀ G, Dq K G v d) → Q v H
theorem evd_cst : EvD T K (tCst K d) ρ d := fun H0 G H σ s t x Q q v h => q _ _ _ (.refl s) (h G)
structure Cst (K : PySem.W.Frag) (mg : Str → Option Value) (x : Str) (d : PyData) : Prop where
  ex : ∃ v u, mg x = some u ∧ RelV v u ∧ ∀ G, Dq K G v d
theorem pe_cst {X : Cx} {x : Str} {pos : Pos} (hg : Gl X x) (c : Cst X.K X.mg x d) (hd : (x == ("__debug__" : Str)) = false := by decide) : PE X (.Name x pos) (tCst X.K d) := by
  refine ⟨(fun pins s σ H Q I h => ?_)⟩
  obtain ⟨v, u, hm, r, q⟩ := c.ex
  exact ld_glob I hg hm ⟨v, H, I, r, h v q⟩ hd

/-! ### operators -/
theorem evd_op (ha : EvD T K ta ρ a) (hb : EvD T K tb ρ b) (hr : OpD T K r a b c) : EvD T K (tOp r ta tb) ρ c := fun H0 G H σ s t x Q q =>
  ha H0 G H σ s t x _ fun v G1 H1 g1 q1 => hb H0 G1 H1 σ g1.sub (g1.tabs t) (x.gw g1) _ fun w G2 H2 g2 q2 =>
    hr G2 H2 v w g2.sub (g2.tabs (g1.tabs t)) (q1.le g2.le) q2 Q fun z G3 H3 g3 q3 => q z G3 H3 ((g1.trans g2).trans g3) q3
theorem evf_op {es : List PyData} (ha : EvD T K ta ρ a) (hb : EvD T K tb ρ b) (hr : OpF T K r a b es) : EvF T K (tOp r ta tb) ρ es := fun H0 G H σ s t x Q q =>
  ha H0 G H σ s t x _ fun v G1 H1 g1 q1 => hb H0 G1 H1 σ g1.sub (g1.tabs t) (x.gw g1) _ fun w G2 H2 g2 q2 =>
    hr G2 H2 v w g2.sub (g2.tabs (g1.tabs t)) (q1.le g2.le) q2 Q fun p us G3 H3 g3 hp gp hl hq => q p us G3 H3 ((g1.trans g2).trans g3) ((g1.trans g2).ex.none_of hp) gp hl hq
theorem evd_un {r : V → Hp → VK → Prop} (ha : EvD T K ta ρ a) (hr : UnD T K r a c) : EvD T K (tUn r ta) ρ c := fun H0 G H σ s t x Q q =>
  ha H0 G H σ s t x _ fun v G1 H1 g1 q1 => hr G1 H1 v g1.sub (g1.tabs t) q1 Q fun z G3 H3 g3 q3 => q z G3 H3 (g1.trans g3) q3
theorem opd_I0 {g : Int → Int → V} {i j : Int} {c : PyData} (h : ∀ G, Dq K G (g i j) c) : OpD T K (rI0 g) (.int i) (.int j) c := fun G H v w s t x y Q q => by
  cases x; cases y
  exact ⟨i, j, rfl, rfl, q _ _ _ (.refl s) (h G)⟩
theorem opd_I {C : Int → Int → Prop} {g : Int → Int → V} {i j : Int} {c : PyData} (hc : C i j) (h : ∀ G, Dq K G (g i j) c) : OpD T K (rI C g) (.int i) (.int j) c := fun G H v w s t x y Q q => by
  cases x; cases y
  exact ⟨i, j, rfl, rfl, hc, q _ _ _ (.refl s) (h G)⟩
theorem OpD.inl {r r' : R2} (h : OpD T K r a b c) : OpD T K (fun x y H Q => r x y H Q ∨ r' x y H Q) a b c := fun G H v w s t x y Q q => .inl (h G H v w s t x y Q q)
theorem OpD.inr {r r' : R2} (h : OpD T K r' a b c) : OpD T K (fun x y H Q => r x y H Q ∨ r' x y H Q) a b c := fun G H v w s t x y Q q => .inr (h G H v w s t x y Q q)
theorem OpF.inl {r r' : R2} {es : List PyData} (h : OpF T K r a b es) : OpF T K (fun x y H Q => r x y H Q ∨ r' x y H Q) a b es := fun G H v w s t x y Q q => .inl (h G H v w s t x y Q q)
theorem OpF.inr {r r' : R2} {es : List PyData} (h : OpF T K r' a b es) : OpF T K (fun x y H Q => r x y H Q ∨ r' x y H Q) a b es := fun G H v w s t x y Q q => .inr (h G H v w s t x y Q q)

/-- + of ints, lists, tuples -/
def rPlus (K : PySem.W.Frag) : R2 := fun x y H Q => rI0 (fun i j => .int (i + j)) x y H Q ∨ (rCat x y H Q ∨ rCatA K x y H Q)
theorem op_plus {X : Cx} : OpR X (binaryOp .Add) (rPlus X.K) := op_add.or (op_cat.or op_catA)
theorem plus_int {i j : Int} : OpD T K (rPlus K) (.int i) (.int j) (.int (i + j)) := OpD.inl (opd_I0 fun _ => .int _)
theorem sz_ok {n : Nat} (h : n ≤ 100000) : n ≤ sizeLine := Nat.le_trans h (by decide)
theorem plus_lstF {xs ys : List PyData} (hn : xs.length + ys.length ≤ 100000) : OpF T K (rPlus K) (.list xs) (.list ys) (xs ++ ys) := OpF.inr (OpF.inl fun G H v w s t x y Q q => by
  cases x with | lst e1 q1 =>
  cases y with | lst e2 q2 =>
  refine ⟨_, _, _, _, rfl, rfl, s.le _ _ e1, s.le _ _ e2, ?_, fun p hp => ?_⟩
  · rw [q1.length, q2.length]; exact sz_ok hn
  · exact q p _ G _ (.newH s hp) hp (s.le.none_of hp) upd_same (q1.append q2))
theorem plus_lst {xs ys : List PyData} (hn : xs.length + ys.length ≤ 100000) : OpD T K (rPlus K) (.list xs) (.list ys) (.list (xs ++ ys)) := (plus_lstF hn).ev
theorem plus_tup {xs ys : List PyData} (hn : xs.length + ys.length ≤ 100000) : OpD T K (rPlus K) (.tuple xs) (.tuple ys) (.tuple (xs ++ ys)) := OpD.inr (OpD.inr fun G H v w s t x y Q q => by
  cases x with | @tup a1 vs1 _ e1 q1 =>
  cases y with | @tup a2 vs2 _ e2 q2 =>
  refine ⟨_, _, _, _, rfl, rfl, sqt_le s.le e1, sqt_le s.le e2, ?_, fun z => ?_, fun _ z => ?_, fun _ _ p hp => ?_⟩
  · rw [q1.length, q2.length]; exact sz_ok hn
  · subst z
    have : xs = [] := List.eq_nil_of_length_eq_zero q1.length.symm
    subst this
    exact q _ _ _ (.refl s) (.tup e2 q2)
  · subst z
    have : ys = [] := List.eq_nil_of_length_eq_zero q2.length.symm
    subst this
    rw [List.append_nil] at q
    exact q _ _ _ (.refl s) (.tup e1 q1)
  · have gp := s.le.none_of hp
    exact q _ _ _ (.new s hp fun z => z) (.tup (SqT.of upd_same) ((q1.append q2).le (Le.upd gp))))
theorem minus_int {i j : Int} : OpD T K (rI0 fun i j => .int (i - j)) (.int i) (.int j) (.int (i - j)) := opd_I0 fun _ => .int _
/-- * of ints (great ones too), a list or a tuple times an int -/
def CMulX (i j : Int) : Prop := CMulW i j ∨ CMul i j
theorem op_mulX {X : Cx} : OpR X (binaryOp .Mult) (rI CMulX fun i j => .int (i * j)) := opI fun _ _ _ _ _ _ _ hc q => PyProof.Rows.mul_int q (by
  rcases hc with h | h
  · exact h.ok
  · exact h.ok)
def rTimes (K : PySem.W.Frag) : R2 := fun x y H Q => rI CMulX (fun i j => .int (i * j)) x y H Q ∨ (rRep x y H Q ∨ rRepT K x y H Q)
theorem op_times {X : Cx} : OpR X (binaryOp .Mult) (rTimes X.K) := op_mulX.or (op_rep.or op_repT)
theorem times_int {i j : Int} (h : CMulX i j) : OpD T K (rTimes K) (.int i) (.int j) (.int (i * j)) := OpD.inl (opd_I h fun _ => .int _)
theorem times_lstF {xs : List PyData} {k : Int} (h0 : -1000 ≤ k) (h1 : k ≤ 1000) (hn : xs.length ≤ 100) : OpF T K (rTimes K) (.list xs) (.int k) (List.replicate k.toNat xs).flatten := OpF.inr (OpF.inl fun G H v w s t x y Q q => by
  cases y
  cases x with | lst e1 q1 =>
  refine ⟨_, _, _, rfl, rfl, s.le _ _ e1, by omega, by omega, ?_, fun p hp => ?_⟩
  · rw [q1.length]
    exact sz_ok (Nat.le_trans (Nat.mul_le_mul hn (show k.toNat ≤ 1000 by omega)) (by decide))
  · exact q p _ G _ (.newH s hp) hp (s.le.none_of hp) upd_same (q1.rep k.toNat))
theorem times_tup {xs : List PyData} {k : Int} (h0 : 2 ≤ k) (h1 : k ≤ 1000) (hx : xs ≠ []) (hn : xs.length ≤ 1000) : OpD T K (rTimes K) (.tuple xs) (.int k) (.tuple (List.replicate k.toNat xs).flatten) := OpD.inr (OpD.inr fun G H v w s t x y Q q => by
  cases y
  cases x with | tup e1 q1 =>
  refine ⟨_, _, _, rfl, rfl, sqt_le s.le e1, fun z => ?_, h0, h1, by rw [q1.length]; exact hn, fun p hp => ?_⟩
  · subst z; exact hx (List.eq_nil_of_length_eq_zero q1.length.symm)
  · have gp := s.le.none_of hp
    exact q _ _ _ (.new s hp fun z => z) (.tup (SqT.of upd_same) ((q1.rep k.toNat).le (Le.upd gp))))
/-- // by any divisor below 2 ^ 9000 -/
def CDivZ (i j : Int) : Prop := j ≠ 0 ∧ j.natAbs.log2 < 9000
theorem op_fdivZ {X : Cx} : OpR X (binaryOp .FloorDiv) (rI CDivZ fun i j => .int (i.fdiv j)) := opI fun i j _ _ _ _ _ hc q => PyProof.Rows.floordiv_int hc.1 q (.inl (PyProof.noPylong_of_log2 hc.2))
theorem fdiv_int {i j : Int} (h : CDivZ i j) : OpD T K (rI CDivZ fun i j => .int (i.fdiv j)) (.int i) (.int j) (.int (i.fdiv j)) := opd_I h fun _ => .int _
theorem fmod_int {i j : Int} (h : j ≠ 0) : OpD T K (rI (fun _ j => j ≠ 0) fun i j => .int (i.fmod j)) (.int i) (.int j) (.int (i.fmod j)) := opd_I h fun _ => .int _
theorem pow_int {i j : Int} (h : CPow i j) : OpD T K (rI CPow fun i j => .int (i ^ j.toNat)) (.int i) (.int j) (.int (i ^ j.toNat)) := opd_I h fun _ => .int _
theorem lt_intD {i j : Int} : OpD T K (rI0 fun i j => .bl (decide (i < j))) (.int i) (.int j) (.bool (decide (i < j))) := opd_I0 fun _ => .bl _
theorem le_intD {i j : Int} : OpD T K (rI0 fun i j => .bl (decide (i ≤ j))) (.int i) (.int j) (.bool (decide (i ≤ j))) := opd_I0 fun _ => .bl _
theorem gt_intD {i j : Int} : OpD T K (rI0 fun i j => .bl (decide (j < i))) (.int i) (.int j) (.bool (decide (j < i))) := opd_I0 fun _ => .bl _
theorem ge_intD {i j : Int} : OpD T K (rI0 fun i j => .bl (decide (j ≤ i))) (.int i) (.int j) (.bool (decide (j ≤ i))) := opd_I0 fun _ => .bl _
theorem neg_intD {i : Int} : UnD T K (rU fun i => .int (-i)) (.int i) (.int (-i)) := fun G H v s t x Q q => by
  cases x
  exact ⟨i, rfl, q _ _ _ (.refl s) (.int _)⟩
/-- ==, != of data -/
theorem eq_D (ha : SeqAt.shaped a = true) (hb : SeqAt.shaped b = true) : OpD T K (rEqD K) a b (.bool (PyData.eqv a b)) := fun G H v w s t x y Q q =>
  ⟨a, b, x.dp s.le, y.dp s.le, ha, hb, q _ _ _ (.refl s) (.bl _)⟩
theorem ne_D (ha : SeqAt.shaped a = true) (hb : SeqAt.shaped b = true) : OpD T K (rNeD K) a b (.bool (!PyData.eqv a b)) := fun G H v w s t x y Q q =>
  ⟨a, b, x.dp s.le, y.dp s.le, ha, hb, q _ _ _ (.refl s) (.bl _)⟩
/-- a[i] -/
theorem ix_tupD {xs : List PyData} {i : Int} (h : atI xs i = some c) : OpD T K (rIx K) (.tuple xs) (.int i) c := fun G H v w s t x y Q q => by
  cases y
  cases x with | tup e1 q1 =>
  obtain ⟨j, hj, hc⟩ : ∃ j, ixN xs.length i = some j ∧ xs[j]? = some c := by
    unfold atI at h
    cases e : (ixN xs.length i) with
    | none => (rw [e] at h; cases h)
    | some j => rw [e] at h; exact ⟨j, rfl, h⟩
  obtain ⟨v, hv, qv⟩ := q1.get hc
  refine .inr (.inl ⟨_, _, i, v, rfl, rfl, sqt_le s.le e1, ?_, q _ _ _ (.refl s) qv⟩)
  unfold atI
  rw [q1.length, hj]
  exact hv
theorem ix_lstD {xs : List PyData} {i : Int} (h : atI xs i = some c) : OpD T K (rIx K) (.list xs) (.int i) c := fun G H v w s t x y Q q => by
  cases y
  cases x with | lst e1 q1 =>
  obtain ⟨j, hj, hc⟩ : ∃ j, ixN xs.length i = some j ∧ xs[j]? = some c := by
    unfold atI at h
    cases e : (ixN xs.length i) with
    | none => (rw [e] at h; cases h)
    | some j => rw [e] at h; exact ⟨j, rfl, h⟩
  obtain ⟨v, hv, qv⟩ := q1.get hc
  refine .inl ⟨_, _, i, v, rfl, rfl, SqL.of (s.le _ _ e1), ?_, q _ _ _ (.refl s) qv⟩
  unfold atI
  rw [q1.length, hj]
  exact hv
/-- a[i], a one's own list -/
theorem evd_ixOwn {i : Nat} {xs : List PyData} {k : Int} (e : ρ[i]? = some (.own xs)) (hb : EvD T K tb ρ (.int k)) (h : atI xs k = some c) : EvD T K (tOp (rIx K) (tVar i) tb) ρ c := fun H0 G H σ s t x Q q => by
  obtain ⟨p, vs, e1, h0, g, hl, qa⟩ := x.own e
  refine ⟨_, e1, hb H0 G H σ s t x _ fun w G1 H1 g1 q1 => ?_⟩
  cases q1
  obtain ⟨j, hj, hc⟩ : ∃ j, ixN xs.length k = some j ∧ xs[j]? = some c := by
    unfold atI at h
    cases e : ixN xs.length k with
    | none => (rw [e] at h; cases h)
    | some j => rw [e] at h; exact ⟨j, rfl, h⟩
  obtain ⟨v, hv, qv⟩ := qa.get hc
  refine .inl ⟨_, vs, k, v, rfl, rfl, SqL.of (g1.keep hl fun z => z), ?_, q v G1 H1 g1 (qv.le g1.le)⟩
  unfold atI
  rw [qa.length, hj]
  exact hv
/-- a == b, a one's own list -/
theorem evd_neOwn {i : Nat} {xs : List PyData} (e : ρ[i]? = some (.own xs)) (hb : EvD T K tb ρ b) (ha : SeqAt.shaped (.list xs) = true) (hs : SeqAt.shaped b = true) : EvD T K (tOp (rNeD K) (tVar i) tb) ρ (.bool (!PyData.eqv (.list xs) b)) := fun H0 G H σ s t x Q q => by
  obtain ⟨p, vs, e1, h0, g, hl, qa⟩ := x.own e
  refine ⟨_, e1, hb H0 G H σ s t x _ fun w G1 H1 g1 q1 => ?_⟩
  exact ⟨.list xs, b, .lst (SqL.of (g1.keep hl fun z => z)) ((qa.le g1.le).dp g1.sub.le), q1.dp g1.sub.le, ha, hs, q _ _ _ g1 (.bl _)⟩
/-- is None -/
theorem evd_isN (h : EvD T K ta ρ a) : EvD T K (tIsN ta) ρ (.bool (isNo a)) := fun H0 G H σ s t x Q q =>
  h H0 G H σ s t x _ fun v G1 H1 g1 q1 => by
    have e : decide (v = .non) = isNo a := by cases q1 <;> rfl
    rw [e]
    exact q _ _ _ g1 (.bl _)
theorem evd_notN (h : EvD T K ta ρ a) : EvD T K (tNotN ta) ρ (.bool (!isNo a)) := fun H0 G H σ s t x Q q =>
  h H0 G H σ s t x _ fun v G1 H1 g1 q1 => by
    have e : (!decide (v = .non)) = !isNo a := by cases q1 <;> rfl
    rw [e]
    exact q _ _ _ g1 (.bl _)

/-! ### tests -/
theorem ted_test {x : Bool} (h : EvD T K te ρ (.bool x)) : TeD T K (tTest te) ρ x := fun H0 G H σ s t y Q q => h H0 G H σ s t y _ fun v G1 H1 g1 q1 => by
  cases q1
  exact ⟨x, rfl, q _ _ g1⟩
theorem ted_B {x : Bool} (h : EvD T K te ρ (.bool x)) : TeD T K (tB te) ρ x := fun H0 G H σ s t y Q q => h H0 G H σ s t y _ fun v G1 H1 g1 q1 => by
  cases q1
  exact ⟨x, rfl, q _ _ g1⟩
theorem ted_and {x y : Bool} (h1 : TeD T K t ρ x) (h2 : x = true → TeD T K u ρ y) : TeD T K (tAnd t u) ρ (x && y) := fun H0 G H σ s tb z Q q => h1 H0 G H σ s tb z _ fun G1 H1 g1 => by
  cases x with
  | true => exact h2 rfl H0 G1 H1 σ g1.sub (g1.tabs tb) (z.gw g1) Q fun G2 H2 g2 => q _ _ (g1.trans g2)
  | false => exact q _ _ g1
theorem ted_or {x y : Bool} (h1 : TeD T K t ρ x) (h2 : x = false → TeD T K u ρ y) : TeD T K (tOr t u) ρ (x || y) := fun H0 G H σ s tb z Q q => h1 H0 G H σ s tb z _ fun G1 H1 g1 => by
  cases x with
  | false => exact h2 rfl H0 G1 H1 σ g1.sub (g1.tabs tb) (z.gw g1) Q fun G2 H2 g2 => q _ _ (g1.trans g2)
  | true => exact q _ _ g1
theorem ted_not {x : Bool} (h1 : TeD T K t ρ x) : TeD T K (tNot t) ρ (!x) := fun H0 G H σ s tb z Q q => h1 H0 G H σ s tb z _ fun G1 H1 g1 => q _ _ g1
theorem evd_and {x : Bool} (h1 : EvD T K ta ρ (.bool x)) (h2 : x = true → EvD T K tb ρ c) (h3 : x = false → c = .bool false) : EvD T K (tAndV ta tb) ρ c := fun H0 G H σ s t z Q q => h1 H0 G H σ s t z _ fun v G1 H1 g1 q1 => by
  cases q1
  refine ⟨x, rfl, ?_⟩
  cases x with
  | true => exact h2 rfl H0 G1 H1 σ g1.sub (g1.tabs t) (z.gw g1) Q fun v G2 H2 g2 => q _ _ _ (g1.trans g2)
  | false => rw [h3 rfl] at q; exact q _ _ _ g1 (.bl _)
theorem evd_or {x : Bool} (h1 : EvD T K ta ρ (.bool x)) (h2 : x = false → EvD T K tb ρ c) (h3 : x = true → c = .bool true) : EvD T K (tOrV ta tb) ρ c := fun H0 G H σ s t z Q q => h1 H0 G H σ s t z _ fun v G1 H1 g1 q1 => by
  cases q1
  refine ⟨x, rfl, ?_⟩
  cases x with
  | false => exact h2 rfl H0 G1 H1 σ g1.sub (g1.tabs t) (z.gw g1) Q fun v G2 H2 g2 => q _ _ _ (g1.trans g2)
  | true => rw [h3 rfl] at q; exact q _ _ _ g1 (.bl _)
theorem evd_not {x : Bool} (h1 : EvD T K ta ρ (.bool x)) : EvD T K (tNotV ta) ρ (.bool (!x)) := fun H0 G H σ s t z Q q => h1 H0 G H σ s t z _ fun v G1 H1 g1 q1 => by
  cases q1
  exact ⟨x, rfl, q _ _ _ g1 (.bl _)⟩
theorem evd_if {x : Bool} (h : TeD T K t ρ x) (h1 : x = true → EvD T K ta ρ c) (h2 : x = false → EvD T K tb ρ c) : EvD T K (tIf t ta tb) ρ c := fun H0 G H σ s tb z Q q => h H0 G H σ s tb z _ fun G1 H1 g1 => by
  cases x with
  | true => exact h1 rfl H0 G1 H1 σ g1.sub (g1.tabs tb) (z.gw g1) Q fun v G2 H2 g2 => q _ _ _ (g1.trans g2)
  | false => exact h2 rfl H0 G1 H1 σ g1.sub (g1.tabs tb) (z.gw g1) Q fun v G2 H2 g2 => q _ _ _ (g1.trans g2)

/-! ### displays, calls, slices -/
theorem evds_nil : EvDs T K tNil ρ [] := fun H0 G H σ s t x Q q => q _ _ _ (.refl s) .nil
theorem evds_cons {tr : TA} {ds : List PyData} (h : EvD T K ta ρ a) (hr : EvDs T K tr ρ ds) : EvDs T K (tCons ta tr) ρ (a :: ds) := fun H0 G H σ s t x Q q =>
  h H0 G H σ s t x _ fun v G1 H1 g1 q1 => hr H0 G1 H1 σ g1.sub (g1.tabs t) (x.gw g1) _ fun vs G2 H2 g2 q2 => q _ _ _ (g1.trans g2) (.cons (q1.le g2.le) q2)
theorem evd_tup {ta : TA} {ds : List PyData} (h : EvDs T K ta ρ ds) (hl : ds.length ≤ 100000) : EvD T K (tTup ta) ρ (.tuple ds) := fun H0 G H σ s t x Q q =>
  h H0 G H σ s t x _ fun vs G1 H1 g1 q1 => ⟨by rw [q1.length]; exact sz_ok hl, fun p hp => q _ _ _ (g1.trans (.new g1.sub hp fun z => z)) (.tup (SqT.of upd_same) (q1.le (Le.upd (g1.sub.le.none_of hp))))⟩
theorem evf_lst {ta : TA} {ds : List PyData} (h : EvDs T K ta ρ ds) (hl : ds.length ≤ 100000) : EvF T K (tLst ta) ρ ds := fun H0 G H σ s t x Q q =>
  h H0 G H σ s t x _ fun vs G1 H1 g1 q1 => ⟨by rw [q1.length]; exact sz_ok hl, fun p hp => q p vs G1 _ (g1.trans (.newH g1.sub hp)) (g1.ex.none_of hp) (g1.sub.le.none_of hp) upd_same q1⟩
theorem evd_cb {r : List V → Hp → VK → Prop} {ta : TA} {ds : List PyData} (h : EvDs T K ta ρ ds) (hr : CbD T K r ds c) : EvD T K (tCB r ta) ρ c := fun H0 G H σ s t x Q q =>
  h H0 G H σ s t x _ fun vs G1 H1 g1 q1 => hr G1 H1 vs g1.sub (g1.tabs t) q1 Q fun z G3 H3 g3 q3 => q z G3 H3 (g1.trans g3) q3
theorem evf_cb {r : List V → Hp → VK → Prop} {ta : TA} {ds es : List PyData} (h : EvDs T K ta ρ ds) (hr : CbF T K r ds es) : EvF T K (tCB r ta) ρ es := fun H0 G H σ s t x Q q =>
  h H0 G H σ s t x _ fun vs G1 H1 g1 q1 => hr G1 H1 vs g1.sub (g1.tabs t) q1 Q fun p us G3 H3 g3 hp gp hl hq => q p us G3 H3 (g1.trans g3) (g1.ex.none_of hp) gp hl hq
theorem evo_none : EvO T K tNoPart ρ none := fun H0 G H σ s t x Q q => q _ _ (.refl s)
theorem evo_some {i : Int} (h : EvD T K te ρ (.int i)) : EvO T K (tPart te) ρ (some i) := fun H0 G H σ s t x Q q => h H0 G H σ s t x _ fun v G1 H1 g1 q1 => by
  cases q1
  exact ⟨i, rfl, q _ _ g1⟩
def cutD (xs : List PyData) (lo hi : Option Int) : List PyData := (xs.drop (HT.sIx xs.length 0 lo)).take (HT.sIx xs.length xs.length hi - HT.sIx xs.length 0 lo)
theorem DqAll.cut {G : Hp} {vs : List V} {ds : List PyData} (h : DqAll K G vs ds) (lo hi : Option Int) : DqAll K G (cutV vs lo hi) (cutD ds lo hi) := by
  unfold cutV cutD
  rw [h.length]
  exact (h.drop _).take _
def rSl (K : PySem.W.Frag) : V → Option Int → Option Int → Hp → VK → Prop := fun x lo hi H Q => rSlL K x lo hi H Q ∨ rSlA K x lo hi H Q
theorem sl_seq {X : Cx} : SlR X (rSl X.K) := sl_list.or sl_tupA
theorem evd_slT {tl th : TO} {xs : List PyData} {lo hi : Option Int} (h : EvD T K te ρ (.tuple xs)) (h1 : EvO T K tl ρ lo) (h2 : EvO T K th ρ hi) : EvD T K (tSl (rSl K) te tl th) ρ (.tuple (cutD xs lo hi)) := fun H0 G H σ s t x Q q =>
  h H0 G H σ s t x _ fun v G1 H1 g1 q1 => h1 H0 G1 H1 σ g1.sub (g1.tabs t) (x.gw g1) _ fun G2 H2 g2 => h2 H0 G2 H2 σ g2.sub (g2.tabs (g1.tabs t)) ((x.gw g1).gw g2) _ fun G3 H3 g3 => by
    have q3 := q1.le (g2.le.trans g3.le)
    have g := (g1.trans g2).trans g3
    cases q3 with | @tup a vs _ e qa =>
    refine .inr ⟨_, vs, rfl, sqt_le g.sub.le e, fun hw => ?_, fun hw p hp => ?_⟩
    · have ec : cutD xs lo hi = xs := by
        unfold cutD
        rw [← qa.length, hw.1, hw.2, List.drop_zero, Nat.sub_zero, qa.length, List.take_length]
      rw [ec] at q
      exact q _ _ _ g (.tup e qa)
    · exact q _ _ _ (g.trans (.new g.sub hp fun z => z)) (.tup (SqT.of upd_same) ((qa.cut lo hi).le (Le.upd (g.sub.le.none_of hp))))
theorem evf_slL {tl th : TO} {xs : List PyData} {lo hi : Option Int} (h : EvD T K te ρ (.list xs)) (h1 : EvO T K tl ρ lo) (h2 : EvO T K th ρ hi) : EvF T K (tSl (rSl K) te tl th) ρ (cutD xs lo hi) := fun H0 G H σ s t x Q q =>
  h H0 G H σ s t x _ fun v G1 H1 g1 q1 => h1 H0 G1 H1 σ g1.sub (g1.tabs t) (x.gw g1) _ fun G2 H2 g2 => h2 H0 G2 H2 σ g2.sub (g2.tabs (g1.tabs t)) ((x.gw g1).gw g2) _ fun G3 H3 g3 => by
    have q3 := q1.le (g2.le.trans g3.le)
    have g := (g1.trans g2).trans g3
    cases q3 with | @lst a vs _ e qa =>
    exact .inl ⟨_, vs, rfl, SqL.of (g.sub.le _ _ e), fun p hp => q p _ G3 _ (g.trans (.newH g.sub hp)) (g.ex.none_of hp) (g.sub.le.none_of hp) upd_same (qa.cut lo hi)⟩
/-- a promise on data -/
def spF (T : Tb) (K : PySem.W.Frag) (f : List PyData → PyData → Prop) : Sp := fun vs H Q _ => ∃ G ds d, Sub G H ∧ LamX.Tabs T H ∧ DqAll K G vs ds ∧ f ds d ∧ ∀ v G' H', Gw T G H G' H' → Dq K G' v d → Q v H'
theorem evd_call {f : List PyData → PyData → Prop} {ta : TA} {ds : List PyData} {E : XK} (h : EvDs T K ta ρ ds) (hf : f ds c) : EvD T K (tCall (spF T K f) [] E ta) ρ c := fun H0 G H σ s t x Q q =>
  h H0 G H σ s t x _ fun vs G1 H1 g1 q1 => by
    show spF T K f (vs ++ []) H1 Q E
    rw [List.append_nil]
    exact ⟨G1, ds, c, g1.sub, g1.tabs t, q1, hf, fun v G2 H2 g2 q2 => q v G2 H2 (g1.trans g2) q2⟩
/-! ### built-ins -/
theorem len_T {xs : List PyData} : CbD T K (fun ws H Q => ∃ p ys, ws = [V.ref p] ∧ (SqL K H p ys ∨ SqT K H p ys) ∧ Q (.int ys.length) H) [.tuple xs] (.int xs.length) := fun G H vs s t x Q q => by
  cases x with | cons x1 x2 =>
  cases x2
  cases x1 with | tup e qa =>
  refine ⟨_, _, rfl, .inr (sqt_le s.le e), ?_⟩
  rw [qa.length]
  exact q _ _ _ (.refl s) (.int _)
theorem len_L {xs : List PyData} : CbD T K (fun ws H Q => ∃ p ys, ws = [V.ref p] ∧ (SqL K H p ys ∨ SqT K H p ys) ∧ Q (.int ys.length) H) [.list xs] (.int xs.length) := fun G H vs s t x Q q => by
  cases x with | cons x1 x2 =>
  cases x2
  cases x1 with | lst e qa =>
  refine ⟨_, _, rfl, .inl (SqL.of (s.le _ _ e)), ?_⟩
  rw [qa.length]
  exact q _ _ _ (.refl s) (.int _)
theorem evd_lenOwn {i : Nat} {xs : List PyData} (e : ρ[i]? = some (.own xs)) : EvD T K (tCB (fun ws H Q => ∃ p ys, ws = [V.ref p] ∧ (SqL K H p ys ∨ SqT K H p ys) ∧ Q (.int ys.length) H) (tCons (tVar i) tNil)) ρ (.int xs.length) := fun H0 G H σ s t x Q q => by
  obtain ⟨p, vs, e1, h0, g, hl, qa⟩ := x.own e
  refine ⟨_, e1, _, vs, rfl, .inl (SqL.of hl), ?_⟩
  rw [qa.length]
  exact q _ _ _ (.refl s) (.int _)
/-- tuple(list), tuple(tuple), list(..) -/
theorem tuple_L {xs : List PyData} : CbD T K (fun ws H Q => ∃ p ys, ws = [V.ref p] ∧ ((SqL K H p ys ∧ ∀ l, H l = none → Q (.ref l) (upd H l (.tup ys))) ∨ (SqT K H p ys ∧ Q (.ref p) H))) [.list xs] (.tuple xs) := fun G H vs s t x Q q => by
  cases x with | cons x1 x2 =>
  cases x2
  cases x1 with | lst e qa =>
  exact ⟨_, _, rfl, .inl ⟨SqL.of (s.le _ _ e), fun l hl => q _ _ _ (.new s hl fun z => z) (.tup (SqT.of upd_same) (qa.le (Le.upd (s.le.none_of hl))))⟩⟩
theorem tuple_T {xs : List PyData} : CbD T K (fun ws H Q => ∃ p ys, ws = [V.ref p] ∧ ((SqL K H p ys ∧ ∀ l, H l = none → Q (.ref l) (upd H l (.tup ys))) ∨ (SqT K H p ys ∧ Q (.ref p) H))) [.tuple xs] (.tuple xs) := fun G H vs s t x Q q => by
  cases x with | cons x1 x2 =>
  cases x2
  cases x1 with | tup e qa =>
  exact ⟨_, _, rfl, .inr ⟨sqt_le s.le e, q _ _ _ (.refl s) (.tup e qa)⟩⟩
theorem evd_tupOwn {i : Nat} {xs : List PyData} (e : ρ[i]? = some (.own xs)) : EvD T K (tCB (fun ws H Q => ∃ p ys, ws = [V.ref p] ∧ ((SqL K H p ys ∧ ∀ l, H l = none → Q (.ref l) (upd H l (.tup ys))) ∨ (SqT K H p ys ∧ Q (.ref p) H))) (tCons (tVar i) tNil)) ρ (.tuple xs) := fun H0 G H σ s t x Q q => by
  obtain ⟨p, vs, e1, h0, g, hl, qa⟩ := x.own e
  exact ⟨_, e1, _, vs, rfl, .inl ⟨SqL.of hl, fun l hl2 => q _ _ _ (.new s hl2 fun z => z) (.tup (SqT.of upd_same) (qa.le (Le.upd (s.le.none_of hl2))))⟩⟩
theorem list_TF {xs : List PyData} : CbF T K (fun ws H Q => ∃ p ys, ws = [V.ref p] ∧ (SqL K H p ys ∨ SqT K H p ys) ∧ ∀ l, H l = none → Q (.ref l) (upd H l (.lst ys))) [.tuple xs] xs := fun G H vs s t x Q q => by
  cases x with | cons x1 x2 =>
  cases x2
  cases x1 with | tup e qa =>
  exact ⟨_, _, rfl, .inr (sqt_le s.le e), fun l hl => q l _ G _ (.newH s hl) hl (s.le.none_of hl) upd_same qa⟩
theorem max_D {i j : Int} : CbD T K (fun xs H Q => ∃ i j, xs = [V.int i, V.int j] ∧ Q (.int (if j > i then j else i)) H) [.int i, .int j] (.int (max i j)) := fun G H vs s t x Q q => by
  cases x with | cons x1 x2 =>
  cases x2 with | cons x2 x3 =>
  cases x3; cases x1; cases x2
  refine ⟨i, j, rfl, ?_⟩
  have e : (if j > i then j else i) = max i j := by split <;> omega
  rw [e]
  exact q _ _ _ (.refl s) (.int _)
theorem min_D {i j : Int} : CbD T K (fun xs H Q => ∃ i j, xs = [V.int i, V.int j] ∧ Q (.int (if j < i then j else i)) H) [.int i, .int j] (.int (min i j)) := fun G H vs s t x Q q => by
  cases x with | cons x1 x2 =>
  cases x2 with | cons x2 x3 =>
  cases x3; cases x1; cases x2
  refine ⟨i, j, rfl, ?_⟩
  have e : (if j < i then j else i) = min i j := by split <;> omega
  rw [e]
  exact q _ _ _ (.refl s) (.int _)
theorem abs_D {i : Int} : CbD T K (fun xs H Q => ∃ i, xs = [V.int i] ∧ Q (.int (if i < 0 then -i else i)) H) [.int i] (.int i.natAbs) := fun G H vs s t x Q q => by
  cases x with | cons x1 x2 =>
  cases x2; cases x1
  refine ⟨i, rfl, ?_⟩
  have e : (if i < 0 then -i else i) = (i.natAbs : Int) := by split <;> omega
  rw [e]
  exact q _ _ _ (.refl s) (.int _)
theorem int_D {i : Int} : CbD T K (fun xs H Q => (∃ i, xs = [V.int i] ∧ Q (.int i) H) ∨ ∃ k, xs = [V.bl k] ∧ Q (.int (if k then 1 else 0)) H) [.int i] (.int i) := fun G H vs s t x Q q => by
  cases x with | cons x1 x2 =>
  cases x2; cases x1
  exact .inl ⟨i, rfl, q _ _ _ (.refl s) (.int _)⟩
theorem int_B {i : Bool} : CbD T K (fun xs H Q => (∃ i, xs = [V.int i] ∧ Q (.int i) H) ∨ ∃ k, xs = [V.bl k] ∧ Q (.int (if k then 1 else 0)) H) [.bool i] (.int (if i then 1 else 0)) := fun G H vs s t x Q q => by
  cases x with | cons x1 x2 =>
  cases x2; cases x1
  exact .inr ⟨i, rfl, q _ _ _ (.refl s) (.int _)⟩
theorem gcd_D {i j : Int} : CbD T K rGcd [.int i, .int j] (.int (Nat.gcd i.natAbs j.natAbs : Nat)) := fun G H vs s t x Q q => by
  cases x with | cons x1 x2 =>
  cases x2 with | cons x2 x3 =>
  cases x3; cases x1; cases x2
  exact ⟨i, j, rfl, q _ _ _ (.refl s) (.int _)⟩
theorem all_D {bs : List Bool} : CbD T K (rAll K) [.list (bs.map .bool)] (.bool (bs.all id)) := fun G H vs s t x Q q => by
  cases x with | cons x1 x2 =>
  cases x2
  cases x1 with | lst e qa =>
  have := qa.bools
  subst this
  exact ⟨_, bs, rfl, SqL.of (s.le _ _ e), q _ _ _ (.refl s) (.bl _)⟩
theorem any_D {bs : List Bool} : CbD T K (rAny K) [.list (bs.map .bool)] (.bool (bs.any id)) := fun G H vs s t x Q q => by
  cases x with | cons x1 x2 =>
  cases x2
  cases x1 with | lst e qa =>
  have := qa.bools
  subst this
  exact ⟨_, bs, rfl, SqL.of (s.le _ _ e), q _ _ _ (.refl s) (.bl _)⟩
end
end K37
namespace K37
open PySem PySem.Spec L2

/-! ### targets -/
def TgD (K : PySem.W.Frag) (g : TG) (js : List Nat) (d : PyData) (ρ ρ' : List Sl) : Prop :=
  ∀ H0 G H σ v, Sub G H → En K H0 G H σ ρ → Dq K G v d → ∀ Q : L2.St → Hp → Prop, (∀ σ', En K H0 G H σ' ρ' → (∀ vs : List Nat, (∀ j ∈ js, j ∈ vs) → wipe σ' vs = wipe σ vs) → Q σ' H) → g v σ H Q
section
variable {T : Tb} {K : PySem.W.Frag} {ρ ρ' ρ1 ρ2 : List Sl} {ta tb te : TE} {a b c d : PyData}
theorem tgd_name {i : Nat} : TgD K (gName i) [i] d ρ (ρ.set i (.dat d)) := fun H0 G H σ v s x q Q k => k _ (x.setDat i q) fun vs hv => wipe_set (hv i (by simp))
theorem tgd_tup2 {g1 g2 : TG} {js1 js2 : List Nat} {d1 d2 : PyData} (h1 : TgD K g1 js1 d1 ρ ρ1) (h2 : TgD K g2 js2 d2 ρ1 ρ2) : TgD K (gTup K 2 (gCons g1 (gCons g2 gNil))) (js1 ++ js2) (.tuple [d1, d2]) ρ ρ2 := fun H0 G H σ v s x q Q k => by
  cases q with | tup e qa =>
  cases qa with | cons q1 qa =>
  cases qa with | cons q2 qa =>
  cases qa
  refine ⟨_, _, rfl, sqt_le s.le e, rfl, _, _, rfl, ?_⟩
  refine h1 H0 G H σ _ s x q1 _ fun σ1 x1 w1 => ⟨_, _, rfl, ?_⟩
  refine h2 H0 G H σ1 _ s x1 q2 _ fun σ2 x2 w2 => ⟨rfl, k _ x2 fun vs hv => ?_⟩
  rw [w2 vs fun j hj => hv j (List.mem_append_right _ hj), w1 vs fun j hj => hv j (List.mem_append_left _ hj)]
theorem tgd_tup3 {g1 g2 g3 : TG} {js1 js2 js3 : List Nat} {d1 d2 d3 : PyData} {ρ3 : List Sl} (h1 : TgD K g1 js1 d1 ρ ρ1) (h2 : TgD K g2 js2 d2 ρ1 ρ2) (h3 : TgD K g3 js3 d3 ρ2 ρ3) : TgD K (gTup K 3 (gCons g1 (gCons g2 (gCons g3 gNil)))) (js1 ++ (js2 ++ js3)) (.tuple [d1, d2, d3]) ρ ρ3 := fun H0 G H σ v s x q Q k => by
  cases q with | tup e qa =>
  cases qa with | cons q1 qa =>
  cases qa with | cons q2 qa =>
  cases qa with | cons q3 qa =>
  cases qa
  refine ⟨_, _, rfl, sqt_le s.le e, rfl, _, _, rfl, ?_⟩
  refine h1 H0 G H σ _ s x q1 _ fun σ1 x1 w1 => ⟨_, _, rfl, ?_⟩
  refine h2 H0 G H σ1 _ s x1 q2 _ fun σ2 x2 w2 => ⟨_, _, rfl, ?_⟩
  refine h3 H0 G H σ2 _ s x2 q3 _ fun σ3 x3 w3 => ⟨rfl, k _ x3 fun vs hv => ?_⟩
  rw [w3 vs fun j hj => hv j (List.mem_append_right _ (List.mem_append_right _ hj)), w2 vs fun j hj => hv j (List.mem_append_right _ (List.mem_append_left _ hj)), w1 vs fun j hj => hv j (List.mem_append_left _ hj)]
theorem tgd_tup4 {g1 g2 g3 g4 : TG} {js1 js2 js3 js4 : List Nat} {d1 d2 d3 d4 : PyData} {ρ3 ρ4 : List Sl} (h1 : TgD K g1 js1 d1 ρ ρ1) (h2 : TgD K g2 js2 d2 ρ1 ρ2) (h3 : TgD K g3 js3 d3 ρ2 ρ3) (h4 : TgD K g4 js4 d4 ρ3 ρ4) : TgD K (gTup K 4 (gCons g1 (gCons g2 (gCons g3 (gCons g4 gNil))))) (js1 ++ (js2 ++ (js3 ++ js4))) (.tuple [d1, d2, d3, d4]) ρ ρ4 := fun H0 G H σ v s x q Q k => by
  cases q with | tup e qa =>
  cases qa with | cons q1 qa =>
  cases qa with | cons q2 qa =>
  cases qa with | cons q3 qa =>
  cases qa with | cons q4 qa =>
  cases qa
  refine ⟨_, _, rfl, sqt_le s.le e, rfl, _, _, rfl, ?_⟩
  refine h1 H0 G H σ _ s x q1 _ fun σ1 x1 w1 => ⟨_, _, rfl, ?_⟩
  refine h2 H0 G H σ1 _ s x1 q2 _ fun σ2 x2 w2 => ⟨_, _, rfl, ?_⟩
  refine h3 H0 G H σ2 _ s x2 q3 _ fun σ3 x3 w3 => ⟨_, _, rfl, ?_⟩
  refine h4 H0 G H σ3 _ s x3 q4 _ fun σ4 x4 w4 => ⟨rfl, k _ x4 fun vs hv => ?_⟩
  rw [w4 vs fun j hj => hv j (List.mem_append_right _ (List.mem_append_right _ (List.mem_append_right _ hj))), w3 vs fun j hj => hv j (List.mem_append_right _ (List.mem_append_right _ (List.mem_append_left _ hj))), w2 vs fun j hj => hv j (List.mem_append_right _ (List.mem_append_left _ hj)), w1 vs fun j hj => hv j (List.mem_append_left _ hj)]
end

/-! ### what is walked -/
structure WalksD (T : Tb) (K : PySem.W.Frag) (J : It) (G : Hp) (ds : List PyData) : Prop where
  go : ∀ i G1 H, Le G G1 → Sub G1 H → i < ds.length → J.go i H
  stop : ∀ G1 H, Le G G1 → Sub G1 H → J.stop ds.length H
  yld : ∀ (i : Nat) G1 H x H' d, Le G G1 → Sub G1 H → J.yld i H x H' → ds[i]? = some d → ∃ G2, Gw T G1 H G2 H' ∧ Dq K G2 x d
def ItD (T : Tb) (K : PySem.W.Frag) (wi : TI) (ρ : List Sl) (ds : List PyData) : Prop :=
  ∀ H0 G H σ, Sub G H → LamX.Tabs T H → En K H0 G H σ ρ → ∀ R : It → Hp → Prop, (∀ J G' H', Gw T G H G' H' → WalksD T K J G' ds → R J H') → wi σ H R
theorem PI.or {X : Cx} {tg iter : Expr} {w1 w2 : TI} (h1 : PI X tg iter w1) (h2 : PI X tg iter w2) : PI X tg iter (fun σ H R => w1 σ H R ∨ w2 σ H R) :=
  ⟨fun pins s σ H R I h => h.elim (h1.run pins s σ H R I) (h2.run pins s σ H R I)⟩
def iSeq (K : PySem.W.Frag) (tl : TE) : TI := fun σ H R => iList K tl σ H R ∨ iTup K tl σ H R
theorem pi_seq {X : Cx} {tg l : Expr} {tl : TE} (hl : PE X l tl) : PI X tg l (iSeq X.K tl) := PI.or (pi_list hl) (pi_tup hl)
section
variable {T : Tb} {K : PySem.W.Frag} {ρ : List Sl} {te : TE} {ds : List PyData}
theorem walks_list {G : Hp} {p : Addr} {vs : List V} (hp : G p = some (.lst vs)) (qa : DqAll K G vs ds) : WalksD T K (Itl K p) G ds where
  go := fun i G1 H l s hi => ⟨vs, vs[i]'(by rw [qa.length]; exact hi), SqL.of (s.le _ _ (l _ _ hp)), by simp⟩
  stop := fun G1 H l s => ⟨vs, SqL.of (s.le _ _ (l _ _ hp)), by rw [qa.length]; exact Nat.le_refl _⟩
  yld := fun i G1 H x H' d l s y e => by
    obtain ⟨rfl, y⟩ := y
    obtain ⟨v, hv, qv⟩ := qa.get e
    have := (y vs (SqL.of (s.le _ _ (l _ _ hp)))).symm.trans hv
    cases this
    exact ⟨G1, .refl s, qv.le l⟩
theorem walks_tup {G : Hp} {p : Addr} {vs : List V} (hp : SqT K G p vs) (qa : DqAll K G vs ds) : WalksD T K (Itt K p) G ds where
  go := fun i G1 H l s hi => ⟨vs, vs[i]'(by rw [qa.length]; exact hi), sqt_le s.le (sqt_le l hp), by simp⟩
  stop := fun G1 H l s => ⟨vs, sqt_le s.le (sqt_le l hp), by rw [qa.length]; exact Nat.le_refl _⟩
  yld := fun i G1 H x H' d l s y e => by
    obtain ⟨rfl, y⟩ := y
    obtain ⟨v, hv, qv⟩ := qa.get e
    have := (y vs (sqt_le s.le (sqt_le l hp))).symm.trans hv
    cases this
    exact ⟨G1, .refl s, qv.le l⟩
theorem itd_L (h : EvD T K te ρ (.list ds)) : ItD T K (iSeq K te) ρ ds := fun H0 G H σ s t x R r => .inl (h H0 G H σ s t x _ fun v G1 H1 g q => by
  cases q with | lst e qa =>
  exact ⟨_, rfl, ⟨_, SqL.of (g.sub.le _ _ e)⟩, r _ G1 H1 g (walks_list e qa)⟩)
theorem itd_T (h : EvD T K te ρ (.tuple ds)) : ItD T K (iSeq K te) ρ ds := fun H0 G H σ s t x R r => .inr (h H0 G H σ s t x _ fun v G1 H1 g q => by
  cases q with | tup e qa =>
  exact ⟨_, rfl, ⟨_, sqt_le g.sub.le e⟩, r _ G1 H1 g (walks_tup e qa)⟩)
def rngD (lo : Int) (n : Nat) : List PyData := (List.range n).map fun i => .int (lo + (i : Nat))
theorem rngD_len (lo : Int) (n : Nat) : (rngD lo n).length = n := by unfold rngD; simp
theorem rngD_get {lo : Int} {n i : Nat} {d : PyData} (h : (rngD lo n)[i]? = some d) : i < n ∧ d = .int (lo + i) := by
  unfold rngD at h
  rw [List.getElem?_map] at h
  by_cases hi : i < n
  · rw [List.getElem?_range hi] at h
    simp at h
    exact ⟨hi, h.symm⟩
  · rw [List.getElem?_eq_none (by simpa using hi)] at h
    cases h
theorem walks_rng {G : Hp} {lo : Int} {n : Nat} : WalksD T K (Itr lo n) G (rngD lo n) where
  go := fun i _ _ _ _ hi => by rw [rngD_len] at hi; exact hi
  stop := fun _ _ _ _ => by rw [rngD_len]; exact Nat.le_refl n
  yld := fun i G1 H x H' d l s y e => by
    obtain ⟨rfl, rfl⟩ := y
    obtain ⟨_, rfl⟩ := rngD_get e
    exact ⟨G1, .refl s, .int _⟩
theorem itd_rng1 {ta : TA} {n : Int} (h : EvDs T K ta ρ [.int n]) (h1 : -1000000 ≤ n) (h2 : n ≤ 1000000) : ItD T K (iRng1 ta) ρ (rngD 0 n.toNat) := fun H0 G H σ s t x R r =>
  h H0 G H σ s t x _ fun vs G1 H1 g q => by
    cases q with | cons q1 q =>
    cases q; cases q1
    exact ⟨n, rfl, by omega, by omega, r _ G1 H1 g walks_rng⟩
theorem itd_rng2 {ta : TA} {lo n : Int} (h : EvDs T K ta ρ [.int lo, .int n]) (h0 : -1000000 ≤ lo ∧ lo ≤ 1000000 := by omega) (h1 : -1000000 ≤ n ∧ n ≤ 1000000 := by omega) : ItD T K (iRng2 ta) ρ (rngD lo (n - lo).toNat) := fun H0 G H σ s t x R r =>
  h H0 G H σ s t x _ fun vs G1 H1 g q => by
    cases q with | cons q1 q =>
    cases q with | cons q2 q =>
    cases q; cases q1; cases q2
    exact ⟨lo, n, rfl, by omega, r _ G1 H1 g walks_rng⟩
end

/-! ### statements -/
inductive Out where
  | nx (ρ : List Sl)
  | rt (d : PyData)
def Post (T : Tb) (K : PySem.W.Frag) (G0 H0 Gs : Hp) (o : Out) (D : Ends) : Prop := match o with
  | .nx ρ => ∀ σ G H, Gw T G0 H0 G H → Le Gs G → En K H0 G H σ ρ → D.nx σ H
  | .rt d => ∀ v G H, Gw T G0 H0 G H → Dq K G v d → D.rt v H
def StD (T : Tb) (K : PySem.W.Frag) (ts : TS) (ρ : List Sl) (o : Out) : Prop :=
  ∀ G0 H0 σ G H D, LamX.Tabs T H0 → Gw T G0 H0 G H → En K H0 G H σ ρ → Post T K G0 H0 G o D → ts D σ H
theorem Post.le {T : Tb} {K : PySem.W.Frag} {G0 H0 G G1 : Hp} {o : Out} {D : Ends} (p : Post T K G0 H0 G o D) (l : Le G G1) : Post T K G0 H0 G1 o D := by
  cases o with
  | nx ρ => exact fun σ G2 H g l2 x => p σ G2 H g (l.trans l2) x
  | rt d => exact p
section
variable {T : Tb} {K : PySem.W.Frag} {ρ ρ' ρ1 ρ2 : List Sl} {ta tb te : TE} {a b c d : PyData} {t u : TS} {o : Out} {tt : TT}
theorem StD.is {o' : Out} (h : StD T K t ρ o) (e : o = o') : StD T K t ρ o' := e ▸ h
theorem std_seq (h1 : StD T K t ρ (.nx ρ1)) (h2 : StD T K u ρ1 o) : StD T K (tSeq t u) ρ o := fun G0 H0 σ G H D tb g x p =>
  h1 G0 H0 σ G H _ tb g x fun σ1 G1 H1 g1 l1 x1 => h2 G0 H0 σ1 G1 H1 D tb g1 x1 (p.le l1)
theorem std_seqR (h1 : StD T K t ρ (.rt d)) : StD T K (tSeq t u) ρ (.rt d) := fun G0 H0 σ G H D tb g x p =>
  h1 G0 H0 σ G H _ tb g x p
theorem std_next : StD T K tNext ρ (.nx ρ) := fun G0 H0 σ G H D tb g x p => p σ G H g (.refl _) x
theorem std_weak (hl : ρ'.length = ρ.length) (hw : ∀ (i : Nat) (s : Sl), ρ'[i]? = some s → s = .any ∨ ρ[i]? = some s) (h : StD T K t ρ' o) : StD T K t ρ o := fun G0 H0 σ G H D tb g x p =>
  h G0 H0 σ G H D tb g (x.weak hl hw) p
theorem std_weakN (h : StD T K t ρ (.nx ρ1)) (hl : ρ2.length = ρ1.length) (hw : ∀ (i : Nat) (s : Sl), ρ2[i]? = some s → s = .any ∨ ρ1[i]? = some s) : StD T K t ρ (.nx ρ2) := fun G0 H0 σ G H D tb g x p =>
  h G0 H0 σ G H D tb g x fun σ1 G1 H1 g1 l1 x1 => p σ1 G1 H1 g1 l1 (x1.weak hl hw)
theorem std_asg {i : Nat} (h : EvD T K te ρ d) : StD T K (tAsg te (gName i)) ρ (.nx (ρ.set i (.dat d))) := fun G0 H0 σ G H D tb g x p =>
  h H0 G H σ g.sub (g.tabs tb) x _ fun v G1 H1 g1 q1 => p _ G1 H1 (g.trans g1) g1.le ((x.gw g1).setDat i q1)
theorem std_asgG {g : TG} {js : List Nat} (h : EvD T K te ρ d) (hg : TgD K g js d ρ ρ1) : StD T K (tAsg te g) ρ (.nx ρ1) := fun G0 H0 σ G H D tb gw x p =>
  h H0 G H σ gw.sub (gw.tabs tb) x _ fun v G1 H1 g1 q1 => hg H0 G1 H1 σ v g1.sub (x.gw g1) q1 _ fun σ1 x1 _ => p _ G1 H1 (gw.trans g1) g1.le x1
theorem std_asgF {i : Nat} {ds : List PyData} (h : EvF T K te ρ ds) : StD T K (tAsg te (gName i)) ρ (.nx (ρ.set i (.own ds))) := fun G0 H0 σ G H D tb g x p =>
  h H0 G H σ g.sub (g.tabs tb) x _ fun q vs G1 H1 g1 hp gp hl qa => p _ G1 H1 (g.trans g1) g1.le ((x.gw g1).setOwn i (g.ex.none_of hp) gp hl qa fun j dj hj ej ez => by
    obtain ⟨p', vs', e1, h0, gg, hp', _⟩ := x.own ej
    rw [ez] at e1
    have : q = p' := by injection e1 with e1; injection e1 with e1; injection e1
    subst this
    rw [hp] at hp'; cases hp')
theorem std_ret (h : EvD T K te ρ d) : StD T K (tRet te) ρ (.rt d) := fun G0 H0 σ G H D tb g x p =>
  h H0 G H σ g.sub (g.tabs tb) x _ fun v G1 H1 g1 q1 => p _ G1 H1 (g.trans g1) q1
theorem std_share {i : Nat} {ds : List PyData} (e : ρ[i]? = some (.own ds)) (h : StD T K t (ρ.set i (.dat (.list ds))) o) : StD T K t ρ o := fun G0 H0 σ G H D tb g x p => by
  obtain ⟨q, vs, h0, gg, hl, x1⟩ := x.share e
  refine h G0 H0 σ _ H D tb ⟨g.ex, g.le.trans (Le.upd gg), ⟨fun a o e => ?_, fun a o e => ?_⟩, fun a o e => ?_, g.tabs⟩ x1 (p.le (Le.upd gg))
  · by_cases z : a = q
    · subst z; rw [upd_same] at e; cases e; exact hl
    · rw [upd_ne z] at e; exact g.sub.le a o e
  · by_cases z : a = q
    · subst z; rw [upd_same] at e; cases e; exact fun z => z
    · rw [upd_ne z] at e; exact g.sub.nt a o e
  · by_cases z : a = q
    · subst z; exact .inr h0
    · rw [upd_ne z] at e; exact g.fresh a o e
theorem std_if {x : Bool} (h : TeD T K tt ρ x) (h1 : x = true → StD T K t ρ o) (h2 : x = false → StD T K u ρ o) : StD T K (tIfS tt t u) ρ o := fun G0 H0 σ G H D tb g y p =>
  h H0 G H σ g.sub (g.tabs tb) y _ fun G1 H1 g1 => by
    cases x with
    | true => exact h1 rfl G0 H0 σ G1 H1 D tb (g.trans g1) (y.gw g1) (p.le g1.le)
    | false => exact h2 rfl G0 H0 σ G1 H1 D tb (g.trans g1) (y.gw g1) (p.le g1.le)
theorem std_drop (h : EvD T K te ρ d) : StD T K (tDrop te) ρ (.nx ρ) := fun G0 H0 σ G H D tb g x p =>
  h H0 G H σ g.sub (g.tabs tb) x _ fun v G1 H1 g1 q1 => p _ G1 H1 (g.trans g1) g1.le (x.gw g1)
/-- xs.append(e), xs one's own list -/
theorem std_app {i : Nat} {ds : List PyData} (e : ρ[i]? = some (.own ds)) (h : EvD T K te ρ d) (hz : ds.length ≤ 1000) : StD T K (tDrop (tBM K "list" rAppend (tVar i) (tCons te tNil))) ρ (.nx (ρ.set i (.own (ds ++ [d])))) := fun G0 H0 σ G H D tb g x p => by
  obtain ⟨q, vs, e1, h0, gg, hl, qa⟩ := x.own e
  refine ⟨_, e1, .inl ⟨rfl, vs, SqL.of hl⟩, ?_⟩
  refine h H0 G H σ g.sub (g.tabs tb) x _ fun v G1 H1 g1 q1 => ⟨q, vs, v, rfl, rfl, g1.keep hl fun z => z, ?_, ?_⟩
  · rw [qa.length]; exact Nat.lt_of_le_of_lt hz (by decide)
  · exact p _ G1 _ ((g.trans g1).mut h0 (g1.out hl gg) (g1.keep hl fun z => z)) g1.le ((x.gw g1).mut e e1 (g1.keep hl fun z => z) ((qa.le g1.le).append (.cons q1 .nil)))
/-- xs.pop(), dropped -/
theorem std_pop {i : Nat} {ds : List PyData} (e : ρ[i]? = some (.own ds)) (hn : ds ≠ []) : StD T K (tDrop (tBM0 K "list" rPop (tVar i))) ρ (.nx (ρ.set i (.own ds.dropLast))) := fun G0 H0 σ G H D tb g x p => by
  obtain ⟨q, vs, e1, h0, gg, hl, qa⟩ := x.own e
  refine ⟨_, e1, .inl ⟨rfl, vs, SqL.of hl⟩, ?_⟩
  have hne : vs ≠ [] := fun z => by subst z; exact hn (List.eq_nil_of_length_eq_zero qa.length.symm)
  have hlt : vs.length - 1 < vs.length := by have := List.length_pos_iff.mpr hne; omega
  exact ⟨q, vs, vs[vs.length - 1], rfl, rfl, hl, List.getElem?_eq_getElem hlt, p _ G _ (g.mut h0 gg hl) (.refl _) (x.mut e e1 hl qa.dropLast)⟩
/-- xs.pop(k), dropped -/
theorem std_popAt {i k : Nat} {ds : List PyData} (e : ρ[i]? = some (.own ds)) (h : EvD T K te ρ (.int (k : Int))) (hk : k < ds.length) (hz : ds.length ≤ 1000) : StD T K (tDrop (tBM K "list" rPopAt (tVar i) (tCons te tNil))) ρ (.nx (ρ.set i (.own (ds.eraseIdx k)))) := fun G0 H0 σ G H D tb g x p => by
  obtain ⟨q, vs, e1, h0, gg, hl, qa⟩ := x.own e
  refine ⟨_, e1, .inl ⟨rfl, vs, SqL.of hl⟩, ?_⟩
  refine h H0 G H σ g.sub (g.tabs tb) x _ fun v G1 H1 g1 q1 => ?_
  cases q1
  have hk' : k < vs.length := by rw [qa.length]; exact hk
  have hx : ixN vs.length (k : Int) = some k := by
    unfold ixN
    rw [if_pos (by omega)]; rw [if_pos (by omega)]
    simp
  exact ⟨q, vs, k, k, vs[k], rfl, rfl, g1.keep hl fun z => z, by omega, by omega, (ixN_seq hx).1, List.getElem?_eq_getElem hk',
    p _ G1 _ ((g.trans g1).mut h0 (g1.out hl gg) (g1.keep hl fun z => z)) g1.le ((x.gw g1).mut e e1 (g1.keep hl fun z => z) ((qa.le g1.le).erase k))⟩
/-- xs[k] = e -/
theorem std_setL {i k : Nat} {ds : List PyData} (e : ρ[i]? = some (.own ds)) (h : EvD T K te ρ d) (hb : EvD T K tb ρ (.int (k : Int))) (hk : k < ds.length) : StD T K (tAsg te (gSub (tVar i) tb rSetL)) ρ (.nx (ρ.set i (.own (ds.set k d)))) := fun G0 H0 σ G H D tbs g x p => by
  obtain ⟨q, vs, e1, h0, gg, hl, qa⟩ := x.own e
  refine h H0 G H σ g.sub (g.tabs tbs) x _ fun v G1 H1 g1 q1 => ⟨_, e1, ?_⟩
  refine hb H0 G1 H1 σ g1.sub (g1.tabs (g.tabs tbs)) (x.gw g1) _ fun w G2 H2 g2 q2 => ?_
  cases q2
  have gg2 := g1.trans g2
  have hl2 := gg2.keep hl fun z => z
  have hx : ixN vs.length (k : Int) = some k := by
    unfold ixN
    rw [if_pos (by omega), if_pos (by rw [qa.length]; omega)]
    simp
  exact ⟨q, vs, (k : Int), k, rfl, rfl, hl2, hx, p _ G2 _ ((g.trans gg2).mut h0 (gg2.out hl gg) hl2) gg2.le ((x.gw gg2).mut e e1 hl2 (DqAll.set (q1.le g2.le) k (qa.le gg2.le)))⟩
/-- x op= e, whole numbers -/
theorem std_aug {i : Nat} {f : Int → Int → Int} {m n : Int} (e : ρ[i]? = some (.dat (.int m))) (h : EvD T K te ρ (.int n)) : StD T K (tAug i te (ipI f)) ρ (.nx (ρ.set i (.dat (.int (f m n))))) := fun G0 H0 σ G H D tb g x p => by
  obtain ⟨v, e1, q⟩ := x.dat e
  cases q
  refine ⟨_, e1, h H0 G H σ g.sub (g.tabs tb) x _ fun w G1 H1 g1 q1 => ?_⟩
  cases q1
  exact ⟨m, n, rfl, rfl, p _ G1 H1 (g.trans g1) g1.le ((x.gw g1).setDat i (.int _))⟩
/-- a, b = x, y -/
theorem std_par {i j : Nat} {ta : TA} {d1 d2 : PyData} (h : EvDs T K ta ρ [d1, d2]) : StD T K (tPar i j ta) ρ (.nx ((ρ.set i (.dat d1)).set j (.dat d2))) := fun G0 H0 σ G H D tb g x p =>
  h H0 G H σ g.sub (g.tabs tb) x _ fun vs G1 H1 g1 qa => by
    cases qa with | cons q1 qa =>
    cases qa with | cons q2 qa =>
    cases qa
    exact ⟨_, _, rfl, p _ G1 H1 (g.trans g1) g1.le (((x.gw g1).setDat i q1).setDat j q2)⟩
/-- for -/
theorem std_for {wi : TI} {g : TG} {tb : TS} {js : List Nat} {ds : List PyData} (ρs : Nat → List Sl) (hi : ItD T K wi (ρs 0) ds) (hs : ∀ (i : Nat) d, ds[i]? = some d → ∃ ρ1, TgD K g js d (ρs i) ρ1 ∧ StD T K tb ρ1 (.nx (ρs (i + 1)))) : StD T K (tFor wi g tb) (ρs 0) (.nx (ρs ds.length)) := fun G0 H0 σ G H D tbs gw x p =>
  hi H0 G H σ gw.sub (gw.tabs tbs) x _ fun J G1 H1 g1 w => by
    refine ⟨fun i m σ H => m = ds.length - i ∧ i ≤ ds.length ∧ ∃ G, Le G1 G ∧ Gw T G0 H0 G H ∧ En K H0 G H σ (ρs i), ⟨_, rfl, Nat.zero_le _, G1, .refl _, gw.trans g1, x.gw g1⟩, ?_⟩
    rintro i m σ2 H2 ⟨rfl, hle, G2, l2, g2, x2⟩
    by_cases hlt : i < ds.length
    · refine .inr ⟨w.go i G2 H2 l2 g2.sub hlt, fun σ3 H3 => ∃ G3, Le G1 G3 ∧ Gw T G0 H0 G3 H3 ∧ En K H0 G3 H3 σ3 (ρs (i + 1)), fun σ3 H3 ⟨G3, a, b, c⟩ => ⟨ds.length - (i + 1), by omega, rfl, hlt, G3, a, b, c⟩, fun v H3 y => ?_⟩
      obtain ⟨ρ1, ht, hb⟩ := hs i _ (List.getElem?_eq_getElem hlt)
      obtain ⟨G3, g3, q3⟩ := w.yld i G2 H2 v H3 _ l2 g2.sub y (List.getElem?_eq_getElem hlt)
      refine ht H0 G3 H3 σ2 v g3.sub (x2.gw g3) q3 _ fun σ4 x4 _ => ?_
      exact hb G0 H0 σ4 G3 H3 _ tbs (g2.trans g3) x4 fun σ5 G5 H5 g5 l5 x5 => ⟨G5, l2.trans (g3.le.trans l5), g5, x5⟩
    · have e : i = ds.length := by omega
      subst e
      exact .inl ⟨w.stop G2 H2 l2 g2.sub, p _ G2 H2 g2 (g1.le.trans l2) x2⟩
/-- .. a turn k hands back -/
theorem std_forR {wi : TI} {g : TG} {tb : TS} {js : List Nat} {ds : List PyData} {r : PyData} (ρs : Nat → List Sl) (k : Nat) (hk : k < ds.length) (hi : ItD T K wi (ρs 0) ds)
    (hs : ∀ (i : Nat) d, i < k → ds[i]? = some d → ∃ ρ1, TgD K g js d (ρs i) ρ1 ∧ StD T K tb ρ1 (.nx (ρs (i + 1)))) (hr : ∀ d, ds[k]? = some d → ∃ ρ1, TgD K g js d (ρs k) ρ1 ∧ StD T K tb ρ1 (.rt r)) : StD T K (tFor wi g tb) (ρs 0) (.rt r) := fun G0 H0 σ G H D tbs gw x p =>
  hi H0 G H σ gw.sub (gw.tabs tbs) x _ fun J G1 H1 g1 w => by
    refine ⟨fun i m σ H => m = ds.length - i ∧ i ≤ k ∧ ∃ G, Le G1 G ∧ Gw T G0 H0 G H ∧ En K H0 G H σ (ρs i), ⟨_, rfl, Nat.zero_le _, G1, .refl _, gw.trans g1, x.gw g1⟩, ?_⟩
    rintro i m σ2 H2 ⟨rfl, hle, G2, l2, g2, x2⟩
    have hlt : i < ds.length := by omega
    by_cases hik : i < k
    · refine .inr ⟨w.go i G2 H2 l2 g2.sub hlt, fun σ3 H3 => ∃ G3, Le G1 G3 ∧ Gw T G0 H0 G3 H3 ∧ En K H0 G3 H3 σ3 (ρs (i + 1)), fun σ3 H3 ⟨G3, a, b, c⟩ => ⟨ds.length - (i + 1), by omega, rfl, hik, G3, a, b, c⟩, fun v H3 y => ?_⟩
      obtain ⟨ρ1, ht, hb⟩ := hs i _ hik (List.getElem?_eq_getElem hlt)
      obtain ⟨G3, g3, q3⟩ := w.yld i G2 H2 v H3 _ l2 g2.sub y (List.getElem?_eq_getElem hlt)
      refine ht H0 G3 H3 σ2 v g3.sub (x2.gw g3) q3 _ fun σ4 x4 _ => ?_
      exact hb G0 H0 σ4 G3 H3 _ tbs (g2.trans g3) x4 fun σ5 G5 H5 g5 l5 x5 => ⟨G5, l2.trans (g3.le.trans l5), g5, x5⟩
    · have e : i = k := by omega
      subst e
      refine .inr ⟨w.go i G2 H2 l2 g2.sub hlt, fun _ _ => False, fun σ3 H3 z => z.elim, fun v H3 y => ?_⟩
      obtain ⟨ρ1, ht, hb⟩ := hr _ (List.getElem?_eq_getElem hlt)
      obtain ⟨G3, g3, q3⟩ := w.yld i G2 H2 v H3 _ l2 g2.sub y (List.getElem?_eq_getElem hlt)
      refine ht H0 G3 H3 σ2 v g3.sub (x2.gw g3) q3 _ fun σ4 x4 _ => ?_
      exact hb G0 H0 σ4 G3 H3 _ tbs (g2.trans g3) x4 fun v5 G5 H5 g5 q5 => p v5 G5 H5 g5 q5
/-- while: n turns -/
theorem std_while {tb : TS} (n : Nat) (ρs : Nat → List Sl) (hs : ∀ i, i < n → TeD T K tt (ρs i) true ∧ StD T K tb (ρs i) (.nx (ρs (i + 1)))) (hd : TeD T K tt (ρs n) false) : StD T K (tWhile tt tb) (ρs 0) (.nx (ρs n)) := fun G0 H0 σ G H D tbs gw x p => by
  refine ⟨fun m σ H => ∃ i, m = n - i ∧ i ≤ n ∧ ∃ G1, Le G G1 ∧ Gw T G0 H0 G1 H ∧ En K H0 G1 H σ (ρs i), ⟨_, 0, rfl, Nat.zero_le _, G, .refl _, gw, x⟩, ?_⟩
  rintro m σ2 H2 ⟨i, rfl, hle, G2, l2, g2, x2⟩
  by_cases hlt : i < n
  · obtain ⟨h1, h2⟩ := hs i hlt
    refine h1 H0 G2 H2 σ2 g2.sub (g2.tabs tbs) x2 _ fun G3 H3 g3 => ?_
    refine ⟨fun σ4 H4 => ∃ G4, Le G G4 ∧ Gw T G0 H0 G4 H4 ∧ En K H0 G4 H4 σ4 (ρs (i + 1)), fun σ4 H4 ⟨G4, a, b, c⟩ => ⟨n - (i + 1), by omega, i + 1, rfl, hlt, G4, a, b, c⟩, ?_⟩
    exact h2 G0 H0 σ2 G3 H3 _ tbs (g2.trans g3) (x2.gw g3) fun σ5 G5 H5 g5 l5 x5 => ⟨G5, l2.trans (g3.le.trans l5), g5, x5⟩
  · have e : i = n := by omega
    subst e
    refine hd H0 G2 H2 σ2 g2.sub (g2.tabs tbs) x2 _ fun G3 H3 g3 => ?_
    exact p σ2 G3 H3 (g2.trans g3) (l2.trans g3.le) (x2.gw g3)

/-! ### comprehensions -/
theorem evf_lcIf {wi : TI} {g : TG} {tt : TT} {vs js : List Nat} {ds : List PyData} (es : List (Option PyData)) (hi : ItD T K wi ρ ds) (hj : ∀ j ∈ js, j ∈ vs) (hl : es.length = ds.length) (hsz : ds.length ≤ 10000)
    (hs : ∀ (i : Nat) d e, ds[i]? = some d → es[i]? = some e → ∃ ρ1, TgD K g js d (wipeL ρ vs) ρ1 ∧ TeD T K tt ρ1 e.isSome ∧ ∀ y, e = some y → EvD T K te ρ1 y) : EvF T K (tLc wi g tt te vs) ρ (es.filterMap id) := fun H0 G H σ s t x Q q =>
  hi H0 G H σ s t x _ fun J G1 H1 g1 w Dl hD => by
    have x1 := x.gw g1
    refine ⟨fun i m H => m = ds.length - i ∧ i ≤ ds.length ∧ ∃ G2 acc, Gw T G1 H1 G2 H ∧ G2 Dl = none ∧ H Dl = some (.lst acc) ∧ DqAll K G2 acc ((es.take i).filterMap id), ⟨_, rfl, Nat.zero_le _, G1, [], .newH g1.sub hD, g1.sub.le.none_of hD, upd_same, by simp; exact .nil⟩, ?_⟩
    rintro i m H2 ⟨rfl, hle, G2, acc, g2, gn, hl2, qa⟩
    by_cases hlt : i < ds.length
    · have hle' : i < es.length := by omega
      refine .inr ⟨w.go i G2 H2 g2.le g2.sub hlt, fun H3 => ∃ G3 acc, Gw T G1 H1 G3 H3 ∧ G3 Dl = none ∧ H3 Dl = some (.lst acc) ∧ DqAll K G3 acc ((es.take (i + 1)).filterMap id), fun H3 z => ⟨ds.length - (i + 1), by omega, rfl, hlt, z⟩, fun v H3 y => ?_⟩
      obtain ⟨ρ1, ht, hc, hb⟩ := hs i _ _ (List.getElem?_eq_getElem hlt) (List.getElem?_eq_getElem hle')
      obtain ⟨G3, g3, q3⟩ := w.yld i G2 H2 v H3 _ g2.le g2.sub y (List.getElem?_eq_getElem hlt)
      have g13 := g2.trans g3
      refine ht H0 G3 H3 _ v g3.sub ((x1.gw g13).wipe vs) q3 _ fun σ4 x4 w4 => ⟨by rw [w4 vs hj, wipe_wipe], ?_⟩
      refine hc H0 G3 H3 σ4 g3.sub (g13.tabs (g1.tabs t)) x4 _ fun G4 H4 g4 => ?_
      have hle2 : acc.length ≤ 10000 := by
        rw [qa.length]
        refine Nat.le_trans (List.length_filterMap_le _ _) ?_
        rw [List.length_take]
        omega
      have etake : es.take (i + 1) = es.take i ++ [es[i]] := by rw [List.take_add_one, List.getElem?_eq_getElem hle']; rfl
      have g34 := g3.trans g4
      cases he : es[i] with
      | none =>
        show ∃ G5 acc, _
        refine ⟨G4, acc, g2.trans g34, g34.out hl2 gn, g34.keep hl2 fun z => z, ?_⟩
        rw [etake, List.filterMap_append, he]
        simp
        exact qa.le g34.le
      | some yv =>
        show te σ4 H4 fun y H5 => _
        refine hb yv he H0 G4 H4 σ4 g4.sub (g4.tabs (g13.tabs (g1.tabs t))) (x4.gw g4) _ fun v5 G5 H5 g5 q5 => ?_
        have g25 := g34.trans g5
        have hl5 := g25.keep hl2 fun z => z
        refine ⟨acc, hl5, Nat.lt_of_le_of_lt hle2 (by decide), G5, acc ++ [v5], (g2.trans g25).mut hD (g25.out hl2 gn) hl5, g25.out hl2 gn, upd_same, ?_⟩
        rw [etake, List.filterMap_append, he]
        exact (qa.le g25.le).append (.cons q5 .nil)
    · have e : i = ds.length := by omega
      subst e
      rw [← hl, List.take_length] at qa
      exact .inl ⟨w.stop G2 H2 g2.le g2.sub, q Dl acc G2 H2 (g1.trans g2) (g1.ex.none_of hD) gn hl2 qa⟩
theorem evf_lc {wi : TI} {g : TG} {vs js : List Nat} {ds : List PyData} (es : List PyData) (hi : ItD T K wi ρ ds) (hj : ∀ j ∈ js, j ∈ vs) (hl : es.length = ds.length) (hsz : ds.length ≤ 10000)
    (hs : ∀ (i : Nat) d e, ds[i]? = some d → es[i]? = some e → ∃ ρ1, TgD K g js d (wipeL ρ vs) ρ1 ∧ EvD T K te ρ1 e) : EvF T K (tLc wi g tYes te vs) ρ es := by
  have h := evf_lcIf (te := te) (tt := tYes) (es.map some) hi hj (by simpa using hl) hsz fun i d e hd he => by
    rw [List.getElem?_map] at he
    cases hes : es[i]? with
    | none => rw [hes] at he; cases he
    | some y =>
      rw [hes] at he
      cases he
      obtain ⟨ρ1, a, b⟩ := hs i d y hd hes
      exact ⟨ρ1, a, fun H0 G H σ s t x Q q => q _ _ (.refl s), fun z hz => by cases hz; exact b⟩
  have e : (es.map some).filterMap id = es := by simp
  rw [e] at h
  exact h
def noOwn : List Sl → Bool
  | [] => true
  | .own _ :: _ => false
  | .dic _ _ _ :: _ => false
  | .urn _ _ :: _ => false
  | .cel _ _ _ _ _ :: _ => false
  | .scr _ _ :: _ => false
  | .any :: r => noOwn r
  | .dat _ :: r => noOwn r
theorem noOwn_get : ∀ {ρ : List Sl} {i : Nat} {s : Sl}, noOwn ρ = true → ρ[i]? = some s → s = .any ∨ ∃ d, s = .dat d
  | [], _, _, _, h => (by cases h)
  | .own _ :: _, _, _, h, _ => by cases h
  | .dic _ _ _ :: _, _, _, h, _ => by cases h
  | .urn _ _ :: _, _, _, h, _ => by cases h
  | .cel _ _ _ _ _ :: _, _, _, h, _ => by cases h
  | .scr _ _ :: _, _, _, h, _ => by cases h
  | .any :: r, 0, _, _, h => .inl (Option.some.inj h).symm
  | .dat d :: r, 0, _, _, h => .inr ⟨d, (Option.some.inj h).symm⟩
  | .any :: r, i + 1, _, h, e => noOwn_get (ρ := r) (i := i) h e
  | .dat _ :: r, i + 1, _, h, e => noOwn_get (ρ := r) (i := i) h e
theorem En.noOwn {H0 G H G' H' : Hp} {σ : L2.St} (x : En K H0 G H σ ρ) (h : noOwn ρ = true) (l : Le G G') : En K H0 G' H' σ ρ := by
  refine ⟨x.len, fun i s e => ?_, x.sep⟩
  obtain ⟨o, e1, q⟩ := x.ok i s e
  refine ⟨o, e1, ?_⟩
  rcases noOwn_get h e with rfl | ⟨d, rfl⟩
  · trivial
  · obtain ⟨v, e2, q⟩ := q; exact ⟨v, e2, q.le l⟩
/-- two clauses -/
theorem evf_lc2 {wi wi1 : TI} {g g1 : TG} {vs vs1 js js1 : List Nat} {ds : List PyData} (ess : List (List PyData)) (hi : ItD T K wi ρ ds) (hj : ∀ j ∈ js, j ∈ vs) (hj1 : ∀ j ∈ js1, j ∈ vs1) (hl : ess.length = ds.length) (hsz : ess.flatten.length ≤ 10000)
    (hs : ∀ (i : Nat) d es, ds[i]? = some d → ess[i]? = some es → ∃ ρ1 dsi, TgD K g js d (wipeL ρ vs) ρ1 ∧ noOwn ρ1 = true ∧ ItD T K wi1 ρ1 dsi ∧ es.length = dsi.length ∧ ∀ (k : Nat) dk ek, dsi[k]? = some dk → es[k]? = some ek → ∃ ρ2, TgD K g1 js1 dk (wipeL ρ1 vs1) ρ2 ∧ EvD T K te ρ2 ek) : EvF T K (tLc2 wi g tYes wi1 g1 tYes te vs vs1) ρ ess.flatten := fun H0 G H σ s t x Q q =>
  hi H0 G H σ s t x _ fun J G1 H1 gw1 w Dl hD => by
    have x1 := x.gw gw1
    refine ⟨fun i m H => m = ds.length - i ∧ i ≤ ds.length ∧ ∃ G2 acc, Gw T G1 H1 G2 H ∧ G2 Dl = none ∧ H Dl = some (.lst acc) ∧ DqAll K G2 acc (ess.take i).flatten, ⟨_, rfl, Nat.zero_le _, G1, [], .newH gw1.sub hD, gw1.sub.le.none_of hD, upd_same, by simp; exact .nil⟩, ?_⟩
    rintro i m H2 ⟨rfl, hle, G2, acc, g2, gn, hl2, qa⟩
    by_cases hlt : i < ds.length
    · have hle' : i < ess.length := by omega
      refine .inr ⟨w.go i G2 H2 g2.le g2.sub hlt, fun H3 => ∃ G3 acc, Gw T G1 H1 G3 H3 ∧ G3 Dl = none ∧ H3 Dl = some (.lst acc) ∧ DqAll K G3 acc (ess.take (i + 1)).flatten, fun H3 z => ⟨ds.length - (i + 1), by omega, rfl, hlt, z⟩, fun v H3 y => ?_⟩
      obtain ⟨ρ1, dsi, ht, hno, hii, hli, hb⟩ := hs i _ _ (List.getElem?_eq_getElem hlt) (List.getElem?_eq_getElem hle')
      obtain ⟨G3, g3, q3⟩ := w.yld i G2 H2 v H3 _ g2.le g2.sub y (List.getElem?_eq_getElem hlt)
      have g13 := g2.trans g3
      have etake : ess.take (i + 1) = ess.take i ++ [ess[i]] := by rw [List.take_add_one, List.getElem?_eq_getElem hle']; rfl
      refine ht H0 G3 H3 _ v g3.sub ((x1.gw g13).wipe vs) q3 _ fun σ4 x4 w4 => ⟨by rw [w4 vs hj, wipe_wipe], ?_⟩
      show wi1 σ4 H3 fun J1 H4 => _
      refine hii H0 G3 H3 σ4 g3.sub (g13.tabs (gw1.tabs t)) x4 _ fun J1 G4 H4 g4 w1 => ?_
      have x5 := x4.gw g4
      have tot : ∀ k, ((ess.take i).flatten ++ ess[i].take k).length ≤ 10000 := fun k => by
        refine Nat.le_trans ?_ hsz
        have e1 : ess = ess.take i ++ ess[i] :: ess.drop (i + 1) := by
          rw [← List.drop_eq_getElem_cons hle', List.take_append_drop]
        have e2 : ess.flatten = (ess.take i).flatten ++ (ess[i] ++ (ess.drop (i + 1)).flatten) := by
          conv => lhs; rw [e1]
          rw [List.flatten_append, List.flatten_cons]
        rw [e2, List.length_append, List.length_append, List.length_append, List.length_take]
        omega
      refine ⟨fun j k H => k = dsi.length - j ∧ j ≤ dsi.length ∧ ∃ G5 acc, Le G4 G5 ∧ Gw T G1 H1 G5 H ∧ G5 Dl = none ∧ H Dl = some (.lst acc) ∧ DqAll K G5 acc ((ess.take i).flatten ++ ess[i].take j), ⟨_, rfl, Nat.zero_le _, G4, acc, .refl _, g2.trans (g3.trans g4), (g3.trans g4).out hl2 gn, (g3.trans g4).keep hl2 fun z => z, by simp; exact qa.le (g3.trans g4).le⟩, ?_⟩
      rintro j k H5 ⟨rfl, hjl, G5, acc5, l5, g5, gn5, hl5, qa5⟩
      have x55 : En K H0 G5 H5 σ4 ρ1 := x4.noOwn hno (g4.le.trans l5)
      by_cases hjlt : j < dsi.length
      · have hjl' : j < ess[i].length := by omega
        refine .inr ⟨w1.go j G5 H5 l5 g5.sub hjlt, fun H6 => ∃ G6 acc, Le G4 G6 ∧ Gw T G1 H1 G6 H6 ∧ G6 Dl = none ∧ H6 Dl = some (.lst acc) ∧ DqAll K G6 acc ((ess.take i).flatten ++ ess[i].take (j + 1)), fun H6 z => ⟨dsi.length - (j + 1), by omega, rfl, hjlt, z⟩, fun v6 H6 y6 => ?_⟩
        obtain ⟨ρ2, ht2, hb2⟩ := hb j _ _ (List.getElem?_eq_getElem hjlt) (List.getElem?_eq_getElem hjl')
        obtain ⟨G6, g6, q6⟩ := w1.yld j G5 H5 v6 H6 _ l5 g5.sub y6 (List.getElem?_eq_getElem hjlt)
        refine ht2 H0 G6 H6 _ v6 g6.sub ((x55.gw g6).wipe vs1) q6 _ fun σ7 x7 w7 => ⟨by rw [w7 vs1 hj1, wipe_wipe], ?_⟩
        show te σ7 H6 fun y H8 => _
        refine hb2 H0 G6 H6 σ7 g6.sub (g6.tabs (g5.tabs (gw1.tabs t))) x7 _ fun v8 G8 H8 g8 q8 => ?_
        have g58 := g6.trans g8
        have hl8 := g58.keep hl5 fun z => z
        have etk : ess[i].take (j + 1) = ess[i].take j ++ [ess[i][j]] := by rw [List.take_add_one, List.getElem?_eq_getElem hjl']; rfl
        refine ⟨acc5, hl8, Nat.lt_of_le_of_lt (by rw [qa5.length]; exact tot j) (by decide), G8, acc5 ++ [v8], l5.trans g58.le, (g5.trans g58).mut hD (g58.out hl5 gn5) hl8, g58.out hl5 gn5, upd_same, ?_⟩
        rw [etk, ← List.append_assoc]
        exact (qa5.le g58.le).append (.cons q8 .nil)
      · have e : j = dsi.length := by omega
        subst e
        refine .inl ⟨w1.stop G5 H5 l5 g5.sub, ?_⟩
        rw [← hli, List.take_length] at qa5
        refine ⟨G5, acc5, g5, gn5, hl5, ?_⟩
        rw [etake, List.flatten_append]
        simpa using qa5
    · have e : i = ds.length := by omega
      subst e
      rw [← hl, List.take_length] at qa
      exact .inl ⟨w.stop G2 H2 g2.le g2.sub, q Dl acc G2 H2 (gw1.trans g2) (gw1.ex.none_of hD) gn hl2 qa⟩
end
end K37
namespace K37
open PySem PySem.Spec L2

/-! ### defs -/
structure Df (P : Program) (w : World) (K : PySem.W.Frag) (mg : Str → Option Value) (base : Heap) (x : Str) (k : Nat) (ps : List Str) (sp : Sp) : Prop where
  ex : ∃ f fd, FnOk P w K mg base CX0 k f fd ps sp ∧ mg x = some (.ref f) ∧ PySem.W.keepIn K (.ref f) = true ∧ Binds K fd ps []
theorem Df.imp {P : Program} {w : World} {K : PySem.W.Frag} {mg : Str → Option Value} {base : Heap} {x : Str} {k j : Nat} {ps : List Str} {sp sp' : Sp} (D : Df P w K mg base x k ps sp) (hk : k ≤ j) (h : ∀ vs H Q E, sp' vs H Q E → sp vs H Q E) : Df P w K mg base x j ps sp' := by
  obtain ⟨f, fd, F, hm, kp, hb⟩ := D.ex
  exact ⟨f, fd, (F.imp h).mono hk, hm, kp, hb⟩
section
variable {X : Cx} {x : Str} {k j : Nat} {ps : List Str} {sp : Sp} {e : Expr} {es : List Expr} {t : TA} {p pos : Pos}
theorem pe_def (D : Df X.prog X.w X.K X.mg X.base x k ps sp) (hr : Room j X.A) (hg : Gl X x) (ha : PA X (e :: es) t) (hj : k ≤ j := by decide) (hdb : (x == ("__debug__" : Str)) = false := by decide)
    (he : starEach (e :: es) X.env = (false, eval e X.env) :: starEach es X.env := by rfl) (hpl : (backTo pos (starEach es X.env)).any (·.1) = false := by rfl) : PE X (.Call (.Name x p) (e :: es) [] pos) (tCall sp [] E0 t) := by
  obtain ⟨f, fd, F, hm, kp, hb⟩ := D.ex
  exact pe_call F (hr.mono hj) hg hm kp hb .nil pass0 ha hdb he hpl
theorem pe_def0 (D : Df X.prog X.w X.K X.mg X.base x k ps sp) (hr : Room j X.A) (hg : Gl X x) (hj : k ≤ j := by decide) (hdb : (x == ("__debug__" : Str)) = false := by decide) : PE X (.Call (.Name x p) [] [] pos) (tCall sp [] E0 tNil) := by
  obtain ⟨f, fd, F, hm, kp, hb⟩ := D.ex
  exact pe_call0 F (hr.mono hj) hg hm kp hb .nil pass0 hdb
end
theorem en_start {K : PySem.W.Frag} {G H : Hp} {N : List Str} {vs : List V} {ds : List PyData} {n : Nat} (q : DqAll K G vs ds) (hn : N.length - vs.length = n) : En K H G H (L2.start N vs) (ds.map Sl.dat ++ List.replicate n Sl.any) := by
  have hl := q.length
  refine ⟨by unfold L2.start; simp [hl, ← hn], fun i s e => ?_, fun i j di dj p _ ei _ _ _ => ?_⟩
  · unfold L2.start
    by_cases hi : i < ds.length
    · rw [List.getElem?_append_left (by simpa using hi), List.getElem?_map] at e
      rw [List.getElem?_append_left (by simpa [hl] using hi), List.getElem?_map]
      cases ed : ds[i]? with
      | none => rw [ed] at e; cases e
      | some d =>
        rw [ed] at e; cases e
        obtain ⟨v, hv, qv⟩ := q.get ed
        exact ⟨some v, by rw [hv]; rfl, v, rfl, qv⟩
    · rw [List.getElem?_append_right (by simpa using hi)] at e
      have hr := List.mem_of_getElem? e
      have es : s = .any := (List.mem_replicate.mp hr).2
      subst es
      have hlt := (List.getElem?_eq_some_iff.mp e).1
      refine ⟨none, ?_, trivial⟩
      rw [List.getElem?_append_right (by simpa [hl] using hi)]
      rw [List.getElem?_replicate, if_pos]
      simp only [List.length_map, List.length_replicate] at hlt ⊢
      omega
  · have hm := List.mem_of_getElem? ei
    rcases List.mem_append.mp hm with h | h
    · obtain ⟨d, _, z⟩ := List.mem_map.mp h; cases z
    · cases (List.mem_replicate.mp h).2
theorem body_of {T : Tb} {K : PySem.W.Frag} {N ps : List Str} {f : List PyData → PyData → Prop} {t : TS} {n : Nat} (hlen : ∀ ds d, f ds d → ds.length = ps.length) (hn : N.length - ps.length = n) (h : ∀ ds d, f ds d → StD T K t (ds.map Sl.dat ++ List.replicate n Sl.any) (.rt d)) :
    ∀ vs H Q E, spF T K f vs H Q E → t { nx := fun _ H' => Q .non H', rt := Q } (L2.start N vs) H := by
  rintro vs H Q E ⟨G, ds, d, s, tb, q, hf, k⟩
  have hl := q.length
  exact h ds d hf G H _ G H _ tb (.refl s) (en_start q (by rw [hl, hlen ds d hf]; exact hn)) fun v G' H' g q' => k v G' H' g q'
theorem sp_len {T : Tb} {K : PySem.W.Frag} {ps : List Str} {f : List PyData → PyData → Prop} (hlen : ∀ ds d, f ds d → ds.length = ps.length) : ∀ vs H Q E, spF T K f vs H Q E → vs.length = ps.length := by
  rintro vs H Q E ⟨G, ds, d, s, tb, q, hf, k⟩
  rw [q.length, hlen ds d hf]

/-! ### the whole context: what the top has left -/
structure Ct (P : Program) (w : World) (K : PySem.W.Frag) (mg : Str → Option Value) (base : Heap) (T : Tb) (fn : List He.DefD) (bl : List Str) (cons : List (Str × PyData)) (ld : He.DefD) (lq : Str) : Prop where
  fnat : ∀ (i : Nat) (d : He.DefD), fn[i]? = some d → ∃ f fd, FunD K d.name d.qual d.params d.body d.scope [] [] f fd ∧ mg d.name = some (.ref f)
  free : ∀ (i : Nat) (x : Str), bl[i]? = some x → mg x = none
  gcd : mg "gcd" = some (.builtin "math.gcd")
  cst : ∀ (i : Nat) (q : Str × PyData), cons[i]? = some q → Cst K mg q.1 q.2
  /-- the one def that makes a lambda: its code object and that one's table -/
  lam : ∃ (fa c tb : Addr) (oc : Value) (od : Option Addr) (osl : Array (Option Value)) (dV kV doc pm ct : Value) (an : Option Addr), K.lookup fa = some ⟨oc, od, .func (PySem.W.fnOf ld.name ld.qual ld.params ld.body ld.scope dV kV doc pm an (.ref c) ct), osl⟩ ∧
    PySem.W.codeIn K (.ref c) ld.qual = true ∧ mg ld.name = some (.ref fa) ∧ LamX.TabB base mg c tb ∧ T = [(tb, lq)]
theorem df_of {P : Program} {w : World} {K : PySem.W.Frag} {mg : Str → Option Value} {base : Heap} {T : Tb} {fn : List He.DefD} {bl : List Str} {cons : List (Str × PyData)} {ld : He.DefD} {lq : Str} (C : Ct P w K mg base T fn bl cons ld lq) {i : Nat} {x : Str} {pr : Arguments} {bd : List Stmt} {sc : Scope}
    {N ps : List Str} {k n : Nat} {f : List PyData → PyData → Prop} (h : fn[i]? = some ⟨(x, none), x, x, pr, bd, sc, [], []⟩) (S : FnScope N ps sc)
    (hb : ∀ (kV doc pm : Value) (an : Option Addr) (cdv ct : Value) (us : List Value), us.length = ps.length → bindArgs (PySem.W.fnOf x x pr bd sc .none kV doc pm an cdv ct) ⟨us, []⟩ = pure (ps.zip us))
    (hlen : ∀ ds d, f ds d → ds.length = ps.length) (hn : N.length - ps.length = n)
    (body : ∀ (cdv : Value) (A : Around) (outer : List Env) (s : Shared) (H : Hp) (E : XK) (fa : Addr), Room k (A.deeper (PyProof.Rows.envOfC x sc s.heap.objs.size fa cdv)) → ∃ t, PSs (cxOf CX0 P w K mg base N x sc fa cdv A outer s H E).nox bd t ∧ ∀ ds d, f ds d → StD T K t (ds.map Sl.dat ++ List.replicate n Sl.any) (.rt d)) :
    Df P w K mg base x (k + 1) ps (spF T K f) := by
  obtain ⟨fa, fd, F, hm⟩ := C.fnat i _ h
  refine ⟨fa, fd, F.ok S (sp_len hlen) (fun cdv A outer s H vs Q E hr hsp => ?_), hm, F.kp, ?_⟩
  · obtain ⟨t, ht, hs⟩ := body cdv A outer s H E fa hr
    exact ⟨t, ht.nox, body_of hlen hn hs vs H Q E hsp⟩
  · exact F.bindsN hb

/-- the def that makes the lambda -/
theorem df_ofL {P : Program} {w : World} {K : PySem.W.Frag} {mg : Str → Option Value} {base : Heap} {T : Tb} {fn : List He.DefD} {bl : List Str} {cons : List (Str × PyData)} {ld : He.DefD} {lq : Str} (C : Ct P w K mg base T fn bl cons ld lq) {i : Nat} {x : Str} {pr : Arguments} {bd : List Stmt} {sc : Scope}
    {N ps : List Str} {k n : Nat} {f : List PyData → PyData → Prop} (h : fn[i]? = some ⟨(x, none), x, x, pr, bd, sc, [], []⟩) (hl : ld = ⟨(x, none), x, x, pr, bd, sc, [], []⟩) (S : FnScope N ps sc)
    (hb : ∀ (kV doc pm : Value) (an : Option Addr) (cdv ct : Value) (us : List Value), us.length = ps.length → bindArgs (PySem.W.fnOf x x pr bd sc .none kV doc pm an cdv ct) ⟨us, []⟩ = pure (ps.zip us))
    (hlen : ∀ ds d, f ds d → ds.length = ps.length) (hn : N.length - ps.length = n)
    (body : ∀ (c tb : Addr), LamX.TabB base mg c tb → T = [(tb, lq)] → ∀ (A : Around) (outer : List Env) (s : Shared) (H : Hp) (E : XK) (fa : Addr), Room k (A.deeper (PyProof.Rows.envOfC x sc s.heap.objs.size fa (.ref c))) → ∃ t, PSs (cxOf CX0 P w K mg base N x sc fa (.ref c) A outer s H E).nox bd t ∧ ∀ ds d, f ds d → StD T K t (ds.map Sl.dat ++ List.replicate n Sl.any) (.rt d)) :
    Df P w K mg base x (k + 1) ps (spF T K f) := by
  subst hl
  obtain ⟨fa0, fd, F, hm0⟩ := C.fnat i _ h
  obtain ⟨fa, c, tb, oc, od, osl, dV, kV, doc, pm, ct, an, lk, hcd, hm, TB, hT⟩ := C.lam
  obtain rfl : fa0 = fa := by
    have := hm0.symm.trans hm
    injection this with this
    injection this
  have hfd : fd = PySem.W.fnOf x x pr bd sc dV kV doc pm an (.ref c) ct := by
    obtain ⟨oc', od', dV', kV', doc', pm', an', cdv', ct', osl', e1, e2, _⟩ := F.ex
    rw [lk] at e2
    injection e2 with e2
    injection e2 with _ _ e2 _
    injection e2 with e2
    exact e2.symm
  subst hfd
  refine ⟨fa0, _, fn_of lk hcd S (sp_len hlen) (fun A outer s H vs Q E hr hsp => ?_), hm, F.kp, F.bindsN hb⟩
  obtain ⟨t, ht, hs⟩ := body c tb TB hT A outer s H E fa0 hr
  exact ⟨t, ht.nox, body_of hlen hn hs vs H Q E hsp⟩

/-! ### isinstance -/
def tyD : PyData → String
  | .none => "NoneType"
  | .bool _ => "bool"
  | .int _ => "int"
  | .list _ => "list"
  | .tuple _ => "tuple"
  | .str _ => "str"
  | .dict _ => "dict"
section
variable {T : Tb} {K : PySem.W.Frag} {ρ : List Sl} {te : TE} {d : PyData}
theorem dq_ty {G H : Hp} {v : V} (l : Le G H) (q : Dq K G v d) : TyX K H v (.type (tyD d)) := by
  cases q with
  | non => exact .base .non
  | bl b => exact .base (.bl b)
  | int i => exact .base (.int i)
  | lst e a => exact .base (.lst (l _ _ e))
  | tup e a =>
    rcases e with (e | ⟨o, e⟩) | ⟨o, its, n, hk, hc, hd, _⟩
    · exact .base (.tup (l _ _ e))
    · exact .fTuple (l _ _ e)
    · exact .kTuple hk hc
theorem evd_isi {c : String} {b : Bool} (h : EvD T K te ρ d) (hb : kitB (tyD d) c = some b) : EvD T K (tCB (rIsi K) (tCons te (tCons (tC (.ty c)) tNil))) ρ (.bool b) := fun H0 G H σ s t x Q q =>
  h H0 G H σ s t x _ fun v G1 H1 g1 q1 => ⟨v, .ty c, .type (tyD d), .type c, b, rfl, .ty c, dq_ty g1.sub.le q1, kit_ty hb, q _ _ _ g1 (.bl _)⟩
theorem evd_isi2 {c1 c2 : String} {b1 b2 : Bool} (h : EvD T K te ρ d) (hb1 : kitB (tyD d) c1 = some b1) (hb2 : kitB (tyD d) c2 = some b2) :
    EvD T K (tCB (rIsiT K) (tCons te (tCons (tTup (tCons (tC (.ty c1)) (tCons (tC (.ty c2)) tNil))) tNil))) ρ (.bool (b1 || b2)) := fun H0 G H σ s t x Q q =>
  h H0 G H σ s t x _ fun v G1 H1 g1 q1 => ⟨by show 2 ≤ sizeLine; decide, fun p hp => by
    refine ⟨v, p, [.ty c1, .ty c2], .type (tyD d), [.type c1, .type c2], b1 || b2, rfl, upd_same, .cons (.ty c1) (.cons (.ty c2) .nil), dq_ty (g1.sub.le.trans (Le.upd hp)) q1, ?_, ?_⟩
    · exact kitAny_cons (b := b1) (kit_ty hb1) (fun e => kitAny_cons (b := b2) (kit_ty hb2) (fun e2 => by rw [e, e2]; exact kitAny_nil) (fun e2 => by rw [e, e2]; rfl)) (fun e => by rw [e]; rfl)
    · exact q _ _ _ (g1.trans (.newH g1.sub hp)) (.bl _)⟩
end
end K37
namespace K37
open PySem

/-! ### FRACTIONS as data -/
abbrev fr (q : Rat) : PyData := .tuple [.int q.num, .int q.den]
/-- numbers of so many bits -/
def Sm (n : Nat) (q : Rat) : Prop := q.num.natAbs < 2 ^ n ∧ q.den < 2 ^ n
theorem fr_shaped (q : Rat) : SeqAt.shaped (fr q) = true := by
  simp [SeqAt.shaped, fr, PyData.canLay0, PyData.canLayAll0, PyData.depth, PyData.depthAll]
theorem fr_eqv (x y : Rat) : PyData.eqv (fr x) (fr y) = decide (x = y) := by
  unfold fr
  simp only [PyData.eqvAll, PyData.eqv]
  by_cases h : x = y
  · subst h; simp
  · rw [decide_eq_false h]
    by_cases h1 : x.num = y.num
    · have h2 : x.den ≠ y.den := fun e => h (Rat.ext h1 e)
      have h3 : ((x.den : Int) == (y.den : Int)) = false := beq_eq_false_iff_ne.mpr (by omega)
      rw [h3]; simp
    · have h3 : (x.num == y.num) = false := beq_eq_false_iff_ne.mpr h1
      rw [h3]; simp
theorem fdiv_exact {a g : Int} (h : g ∣ a) : a.fdiv g = a / g := by
  rw [Int.fdiv_eq_ediv_of_dvd h]
theorem div_num {a b : Int} (hb : b ≠ 0) : a.fdiv (if b < 0 then -((Nat.gcd a.natAbs b.natAbs : Nat) : Int) else ((Nat.gcd a.natAbs b.natAbs : Nat) : Int)) = (Rat.divInt a b).num := by
  have hg : ((Nat.gcd a.natAbs b.natAbs : Nat) : Int) ∣ a := Int.natAbs_dvd_natAbs.mp (show a.natAbs.gcd b.natAbs ∣ a.natAbs from Nat.gcd_dvd_left _ _)
  rw [Rat.num_divInt, Int.gcd_comm]
  show _ = b.sign * a / ((Nat.gcd a.natAbs b.natAbs : Nat) : Int)
  generalize ((Nat.gcd a.natAbs b.natAbs : Nat) : Int) = g at hg
  by_cases h : b < 0
  · rw [if_pos h, Int.sign_eq_neg_one_of_neg h, fdiv_exact (Int.neg_dvd.mpr hg), Int.ediv_neg, Int.neg_one_mul, Int.neg_ediv_of_dvd hg]
  · rw [if_neg h, Int.sign_eq_one_of_pos (by omega), fdiv_exact hg, Int.one_mul]
theorem div_den {a b : Int} (hb : b ≠ 0) : b.fdiv (if b < 0 then -((Nat.gcd a.natAbs b.natAbs : Nat) : Int) else ((Nat.gcd a.natAbs b.natAbs : Nat) : Int)) = ((Rat.divInt a b).den : Int) := by
  have hg : ((Nat.gcd a.natAbs b.natAbs : Nat) : Int) ∣ b := Int.natAbs_dvd_natAbs.mp (show a.natAbs.gcd b.natAbs ∣ b.natAbs from Nat.gcd_dvd_right _ _)
  rw [Rat.den_divInt, if_neg hb, Int.gcd_comm]
  show _ = ((b.natAbs / Nat.gcd a.natAbs b.natAbs : Nat) : Int)
  rw [Int.natCast_ediv]
  generalize ((Nat.gcd a.natAbs b.natAbs : Nat) : Int) = g at hg
  by_cases h : b < 0
  · rw [if_pos h, fdiv_exact (Int.neg_dvd.mpr hg), Int.ediv_neg]
    have e : (b.natAbs : Int) = -b := by omega
    rw [e, Int.neg_ediv_of_dvd hg]
  · rw [if_neg h, fdiv_exact hg]
    have e : (b.natAbs : Int) = b := by omega
    rw [e]
theorem rat_plus (x y : Rat) : Rat.divInt (x.num * y.den + y.num * x.den) (x.den * y.den) = x + y := by
  conv => rhs; rw [← Rat.num_divInt_den x, ← Rat.num_divInt_den y]
  rw [Rat.divInt_add_divInt _ _ (by have := x.den_nz; omega) (by have := y.den_nz; omega)]
theorem rat_times (x y : Rat) : Rat.divInt (x.num * y.num) (x.den * y.den) = x * y := by
  conv => rhs; rw [← Rat.num_divInt_den x, ← Rat.num_divInt_den y]
  rw [Rat.divInt_mul_divInt]
theorem rat_over (x y : Rat) : Rat.divInt (x.num * y.den) (x.den * y.num) = x / y := by
  rw [Rat.div_def, Rat.inv_def]
  conv => rhs; rw [← Rat.num_divInt_den x]
  rw [Rat.divInt_mul_divInt]
theorem fr_zero : fr 0 = .tuple [.int 0, .int 1] := rfl
theorem fr_one : fr 1 = .tuple [.int 1, .int 1] := rfl
theorem fr_int (n : Int) : fr (n : Rat) = .tuple [.int n, .int 1] := by
  unfold fr
  rw [Rat.num_intCast, Rat.den_intCast]
  rfl
theorem num_zero {x : Rat} : x.num = 0 ↔ x = 0 := Rat.num_eq_zero
theorem den_pos (x : Rat) : 0 < x.den := Nat.pos_of_ne_zero x.den_nz
end K37
namespace K37
open PySem PySem.Spec L2
/-! ### the text by places -/
def top (i : Nat) : Stmt := PySem.Challenge.pw_everychange_k37_whole_same_rows_by_all_r.main.body.getD i (.Pass ⟨0, 0, 0, 0⟩)
def dd (x : Str) (i : Nat) : He.DefD := ⟨(x, none), x, x, defArgs (top i), defBody (top i), defScope (top i), [], []⟩
def fn0 : List He.DefD := [dd "is_number" 2, dd "tuple_of" 3, dd "is_tuple_of" 4, dd "is_fraction" 9, dd "fraction" 10, dd "whole" 11, dd "plus" 12, dd "times" 13, dd "over" 14, dd "is_less" 15, dd "size_of" 16, dd "is_row" 17, dd "is_matrix" 18, dd "dot" 19, dd "applied" 20, dd "turned" 21, dd "product" 22, dd "row_turned" 26, dd "row_joined" 27, dd "go_together" 28, dd "place_to_meet" 29, dd "shortened" 30, dd "normal_row" 31, dd "is_same" 32, dd "next_lyndon" 34, dd "lyndon_words" 35, dd "trimmed" 38, dd "_longer" 39, dd "poly_plus" 40, dd "poly_scaled" 41]
def fn1 : List He.DefD := [dd "poly_times" 42, dd "_behind" 48, dd "word_worth" 49, dd "rest_of" 50, dd "parts_in" 51, dd "parting_word" 52, dd "_is_nilpotent" 53, dd "is_push" 54, dd "_matrix" 55, dd "cell_push" 56, dd "spring_push" 57, dd "_sum_of" 58, dd "_line_on" 59, dd "_led" 60, dd "flow_table" 61, dd "_moved" 62, dd "flow_at" 63, dd "one_step" 64, dd "_run_with" 65, dd "parting_run" 66, dd "is_parting_run" 67, dd "_law_box" 69, dd "_law_take" 70, dd "_law_cells" 71, dd "_law_of" 72, dd "_law_same" 73, dd "_law_low" 74, dd "_law_add" 75, dd "_law_mul" 76, dd "_law_normal" 77]
def fn2 : List He.DefD := [dd "_law_undone" 78, dd "_law_rest" 79, dd "_law_much" 80, dd "_law_row" 81, dd "_law_bracket" 82, dd "_law_pair" 83, dd "_law_sheet_of" 84, dd "_law_frac" 85, dd "_law_poly_add" 86, dd "_law_poly_times" 87, dd "_law_poly_later" 88, dd "_law_shown" 89, dd "_law_spring_same" 90, dd "_law_case_right" 91, dd "_law_by_hand_right" 92, dd "_law_right" 93, dd "law" 94]
def fn : List He.DefD := fn0 ++ fn1 ++ fn2
def cons : List (Str × PyData) := [("NONE_ratios", fr 0), ("NONE_flowrows", fr 0), ("NONE_polys", fr 0), ("NONE_parting", fr 0), ("LESS", fr (-1)), ("ONE", fr 1), ("STEP", .tuple [fr 0, fr 1]), ("STARTS", .tuple [.tuple [fr 1, fr 0], .tuple [fr 0, fr 1]])]
def bl : List Str := ["abs", "all", "any", "bool", "enumerate", "int", "isinstance", "len", "list", "max", "min", "range", "reversed", "set", "sorted", "str", "tuple", "zip"]
abbrev CT (P : Program) (w : World) (K : PySem.W.Frag) (mg : Str → Option Value) (base : Heap) (T : Tb) : Prop := Ct P w K mg base T fn bl cons (dd "lyndon_words" 35) "lyndon_words.<locals>.<lambda>" 
end K37
namespace K37
open PyProof.Rows PySem PySem.Spec L2
def fa0 : List He.Fa := [.glo "is_number", .glo "tuple_of", .glo "is_tuple_of", .glo "is_fraction", .glo "fraction", .glo "whole", .glo "plus", .glo "times", .glo "over", .glo "is_less", .glo "size_of", .glo "is_row", .glo "is_matrix", .glo "dot", .glo "applied", .glo "turned", .glo "product", .glo "row_turned", .glo "row_joined", .glo "go_together", .glo "place_to_meet", .glo "shortened", .glo "normal_row", .glo "is_same", .glo "next_lyndon", .glo "lyndon_words", .glo "trimmed", .glo "_longer", .glo "poly_plus", .glo "poly_scaled", .glo "poly_times", .glo "_behind", .glo "word_worth", .glo "rest_of", .glo "parts_in", .glo "parting_word", .glo "_is_nilpotent", .glo "is_push", .glo "_matrix", .glo "cell_push"]
def fa1 : List He.Fa := [.glo "spring_push", .glo "_sum_of", .glo "_line_on", .glo "_led", .glo "flow_table", .glo "_moved", .glo "flow_at", .glo "one_step", .glo "_run_with", .glo "parting_run", .glo "is_parting_run", .glo "_law_box", .glo "_law_take", .glo "_law_cells", .glo "_law_of", .glo "_law_same", .glo "_law_low", .glo "_law_add", .glo "_law_mul", .glo "_law_normal", .glo "_law_undone", .glo "_law_rest", .glo "_law_much", .glo "_law_row", .glo "_law_bracket", .glo "_law_pair", .glo "_law_sheet_of", .glo "_law_frac", .glo "_law_poly_add", .glo "_law_poly_times", .glo "_law_poly_later", .glo "_law_shown", .glo "_law_spring_same", .glo "_law_case_right", .glo "_law_by_hand_right", .glo "_law_right", .glo "law"]
def fa2 : List He.Fa := [.free "abs", .free "all", .free "any", .free "bool", .free "enumerate", .free "int", .free "isinstance", .free "len", .free "list", .free "max", .free "min", .free "range", .free "reversed", .free "set", .free "sorted", .free "str", .free "tuple", .free "zip"]
def fa : List He.Fa := fa0 ++ fa1 ++ fa2
def nmI0 : List (Str × Nat) := [("is_number", 2), ("tuple_of", 3), ("is_tuple_of", 4), ("is_fraction", 9), ("fraction", 10), ("whole", 11), ("plus", 12), ("times", 13), ("over", 14), ("is_less", 15), ("size_of", 16), ("is_row", 17), ("is_matrix", 18), ("dot", 19), ("applied", 20), ("turned", 21), ("product", 22), ("row_turned", 26), ("row_joined", 27), ("go_together", 28), ("place_to_meet", 29), ("shortened", 30), ("normal_row", 31), ("is_same", 32), ("next_lyndon", 34), ("lyndon_words", 35), ("trimmed", 38), ("_longer", 39), ("poly_plus", 40), ("poly_scaled", 41)]
def nmI1 : List (Str × Nat) := [("poly_times", 42), ("_behind", 48), ("word_worth", 49), ("rest_of", 50), ("parts_in", 51), ("parting_word", 52), ("_is_nilpotent", 53), ("is_push", 54), ("_matrix", 55), ("cell_push", 56), ("spring_push", 57), ("_sum_of", 58), ("_line_on", 59), ("_led", 60), ("flow_table", 61), ("_moved", 62), ("flow_at", 63), ("one_step", 64), ("_run_with", 65), ("parting_run", 66), ("is_parting_run", 67), ("_law_box", 69), ("_law_take", 70), ("_law_cells", 71), ("_law_of", 72), ("_law_same", 73), ("_law_low", 74), ("_law_add", 75), ("_law_mul", 76), ("_law_normal", 77)]
def nmI2 : List (Str × Nat) := [("_law_undone", 78), ("_law_rest", 79), ("_law_much", 80), ("_law_row", 81), ("_law_bracket", 82), ("_law_pair", 83), ("_law_sheet_of", 84), ("_law_frac", 85), ("_law_poly_add", 86), ("_law_poly_times", 87), ("_law_poly_later", 88), ("_law_shown", 89), ("_law_spring_same", 90), ("_law_case_right", 91), ("_law_by_hand_right", 92), ("_law_right", 93), ("law", 94)]
def nmI : List (Str × Nat) := nmI0 ++ nmI1 ++ nmI2
/-- v tells the data d by what stands in K -/
def datB (K : PySem.W.Frag) : Nat → Value → PyData → Bool
  | 0, _, _ => false
  | n + 1, v, d => match d with
    | .int i => (match v with | .int j _ => decide (i = j) | _ => false)
    | .tuple ds => (match v with
      | .ref a => (match (K.lookup a) with
        | some ⟨.type c, _, .seq its _, _⟩ => decide (c = "tuple") && (decide (its.size ≤ sizeLine) && datsB (datB K n) its.toList ds)
        | _ => false)
      | _ => false)
    | _ => false
where datsB (f : Value → PyData → Bool) : List Value → List PyData → Bool
  | [], [] => true
  | v :: vs, d :: ds => f v d && datsB f vs ds
  | _, _ => false
def conB (K : PySem.W.Frag) (x : Str) (d : PyData) : Bool := match PySem.W.nsIn K mainGlobals x with
  | some (some v) => datB K 8 v d
  | _ => false
def gcdB (K : PySem.W.Frag) : Bool := He.eqO (PySem.W.nsIn K mainGlobals "gcd") (some (some (.builtin "math.gcd")))
def ex (K : PySem.W.Frag) : Bool := gcdB K && cons.all fun q => conB K q.1 q.2
abbrev R : PySem.W.OpenRow := PySem.W.OpenLaw.row PySem.Challenge.rw_everychange_k37_whole_same_rows_by_all_r
def tf : List He.Defn := [("lyndon_words", none)]
abbrev hk : PySem.W.Hook := He.hookX 2 fa fn [] tf ex
def ob (s : PySem.W.SharedT) : He.AlX := He.obsX 2 fa fn [] tf ex (HandSHeadRun.getT s)
theorem ob_eq (s : PySem.W.SharedT) : ob s = hk.obs s.abs := He.obsX_eq (HandSHeadRun.getT_eq s)
def loose0 : List PySem.Str := ["is_number", "tuple_of", "is_tuple_of", "is_fraction", "fraction", "whole", "plus", "times", "over", "is_less", "size_of", "is_row", "is_matrix", "dot", "applied", "turned", "product", "row_turned", "row_joined", "go_together", "place_to_meet", "shortened", "normal_row", "is_same", "next_lyndon", "lyndon_words", "trimmed", "_longer", "poly_plus", "poly_scaled"]
def loose1 : List PySem.Str := ["poly_times", "_behind", "word_worth", "rest_of", "parts_in", "parting_word", "_is_nilpotent", "is_push", "_matrix", "cell_push", "spring_push", "_sum_of", "_line_on", "_led", "flow_table", "_moved", "flow_at", "one_step", "_run_with", "parting_run", "is_parting_run", "_law_box", "_law_take", "_law_cells", "_law_of", "_law_same", "_law_low", "_law_add", "_law_mul", "_law_normal"]
def loose2 : List PySem.Str := ["_law_undone", "_law_rest", "_law_much", "_law_row", "_law_bracket", "_law_pair", "_law_sheet_of", "_law_frac", "_law_poly_add", "_law_poly_times", "_law_poly_later", "_law_shown", "_law_spring_same", "_law_case_right", "_law_by_hand_right", "_law_right", "Unfit", "LESS", "NONE_flowrows", "NONE_parting", "NONE_polys", "NONE_ratios", "ONE", "STARTS", "STEP"]
abbrev loose : List PySem.Str := loose0 ++ loose1 ++ loose2
theorem run (w : World) : HandSHeadRun.RunEqI R (PySem.W.view R.prog [0, 94]) hk ob 4000 loose w := by
  unfold HandSHeadRun.RunEqI
  kernel_rfl
end K37
namespace K37
open PySem
/-! ### sizes: x = k / D, |k| ≤ B -/
def Bq (D B : Nat) (x : Rat) : Prop := ∃ k : Int, x = Rat.divInt k D ∧ k.natAbs ≤ B
theorem divInt_mul_right {a b c : Int} (hc : c ≠ 0) : Rat.divInt (a * c) (b * c) = Rat.divInt a b := by
  by_cases hb : b = 0
  · subst hb; simp
  · rw [Rat.divInt_eq_divInt_iff (Int.mul_ne_zero hb hc) hb]
    rw [Int.mul_assoc, Int.mul_comm c b]
theorem Bq.mono {D A B : Nat} {x : Rat} (h : Bq D A x) (l : A ≤ B) : Bq D B x := by
  obtain ⟨k, e, b⟩ := h
  exact ⟨k, e, Nat.le_trans b l⟩
theorem Bq.up {D A : Nat} {x : Rat} (h : Bq D A x) (E : Nat) (hE : 0 < E) : Bq (D * E) (A * E) x := by
  obtain ⟨k, e, b⟩ := h
  refine ⟨k * E, ?_, ?_⟩
  · rw [e, Int.natCast_mul, divInt_mul_right (by omega)]
  · rw [Int.natAbs_mul, Int.natAbs_natCast]
    exact Nat.mul_le_mul_right E b
theorem Bq.add {D A B : Nat} {x y : Rat} (hD : 0 < D) (h : Bq D A x) (g : Bq D B y) : Bq D (A + B) (x + y) := by
  obtain ⟨k, rfl, b⟩ := h
  obtain ⟨l, rfl, c⟩ := g
  refine ⟨k + l, ?_, Nat.le_trans (Int.natAbs_add_le k l) (Nat.add_le_add b c)⟩
  rw [Rat.divInt_add_divInt _ _ (by omega) (by omega), ← Int.add_mul, divInt_mul_right (by omega)]
theorem Bq.neg {D A : Nat} {x : Rat} (h : Bq D A x) : Bq D A (-x) := by
  obtain ⟨k, rfl, b⟩ := h
  exact ⟨-k, by rw [Rat.neg_divInt], by rw [Int.natAbs_neg]; exact b⟩
theorem Bq.mul {D E A B : Nat} {x y : Rat} (h : Bq D A x) (g : Bq E B y) : Bq (D * E) (A * B) (x * y) := by
  obtain ⟨k, rfl, b⟩ := h
  obtain ⟨l, rfl, c⟩ := g
  refine ⟨k * l, ?_, ?_⟩
  · rw [Rat.divInt_mul_divInt, Int.natCast_mul]
  · rw [Int.natAbs_mul]; exact Nat.mul_le_mul b c
theorem Bq.zero {D B : Nat} : Bq D B 0 := ⟨0, by simp, Nat.zero_le _⟩
theorem Bq.int (n : Int) : Bq 1 n.natAbs n := ⟨n, by show (n : Rat) = Rat.divInt n 1; rw [← Rat.num_divInt_den (n : Rat)]; simp, Nat.le_refl _⟩
theorem Bq.sm {D B n : Nat} {x : Rat} (h : Bq D B x) (h0 : 0 < D) (h1 : D < 2 ^ n) (h2 : B < 2 ^ n) : Sm n x := by
  obtain ⟨k, rfl, b⟩ := h
  have hD : (D : Int) ≠ 0 := by omega
  constructor
  · refine Nat.lt_of_le_of_lt (Nat.le_trans ?_ b) h2
    rw [Rat.num_divInt, Int.sign_eq_one_of_pos (by omega), Int.one_mul, Int.natAbs_ediv_of_dvd (Int.gcd_dvd_right _ _)]
    exact Nat.div_le_self _ _
  · refine Nat.lt_of_le_of_lt ?_ h1
    rw [Rat.den_divInt, if_neg hD]
    exact Nat.div_le_self _ _
theorem p4000 {n : Nat} (h : n < 2 ^ 64) : n < 2 ^ 4000 := Nat.lt_of_lt_of_le h (Nat.pow_le_pow_right (by decide) (by decide))
end K37
namespace K37
/-! ### rows and their normal form: a stack, its top at the head -/
abbrev Row := List (Int × Rat)
def push : Row → Int × Rat → Row
  | [], p => if p.2 = 0 then [] else [p]
  | q :: t, p => if q.1 = p.1 then (if q.2 + p.2 = 0 then t else (p.1, q.2 + p.2) :: t) else if p.2 = 0 then q :: t else p :: q :: t
theorem push_nil (p : Int × Rat) : push [] p = if p.2 = 0 then [] else [p] := rfl
theorem push_cons (q : Int × Rat) (t : Row) (p : Int × Rat) : push (q :: t) p = if q.1 = p.1 then (if q.2 + p.2 = 0 then t else (p.1, q.2 + p.2) :: t) else if p.2 = 0 then q :: t else p :: q :: t := rfl
def stk (r : Row) : Row := r.foldl push []
def nf (r : Row) : Row := (stk r).reverse
/-- no zero, no two alike side by side -/
inductive Red : Row → Prop
  | nil : Red []
  | one {p : Int × Rat} : p.2 ≠ 0 → Red [p]
  | cons {p q : Int × Rat} {t : Row} : p.2 ≠ 0 → p.1 ≠ q.1 → Red (q :: t) → Red (p :: q :: t)
theorem Red.tail {p : Int × Rat} {t : Row} (h : Red (p :: t)) : Red t := by
  cases h with
  | one => exact .nil
  | cons _ _ h => exact h
theorem Red.head {p : Int × Rat} {t : Row} (h : Red (p :: t)) : p.2 ≠ 0 := by
  cases h with
  | one h => exact h
  | cons h _ _ => exact h
theorem Red.ne {p q : Int × Rat} {t : Row} (h : Red (p :: q :: t)) : p.1 ≠ q.1 := by
  cases h with
  | cons _ h _ => exact h
theorem Red.sub {p q : Int × Rat} {t : Row} (h : Red (q :: t)) (e : p.1 = q.1) (n : p.2 ≠ 0) : Red (p :: t) := by
  cases h with
  | one _ => exact .one n
  | cons _ g h => exact .cons n (e ▸ g) h
theorem Red.pushed {s : Row} (h : Red s) (p : Int × Rat) : Red (push s p) := by
  cases s with
  | nil =>
    rw [push_nil]
    split
    · exact .nil
    · exact .one ‹_›
  | cons q t =>
    rw [push_cons]
    split
    · rename_i e
      split
      · exact h.tail
      · rename_i n
        exact h.sub e.symm n
    · rename_i e
      split
      · exact h
      · rename_i n
        exact .cons n (fun z => e z.symm) h
theorem red_fold : ∀ {r s : Row}, Red s → Red (r.foldl push s)
  | [], _, h => h
  | p :: r, s, h => red_fold (r := r) (h.pushed p)
theorem red_stk (r : Row) : Red (stk r) := red_fold .nil
/-- pushing a letter and its undoing -/
theorem push_undo {s : Row} (h : Red s) (p : Int) (x : Rat) : push (push s (p, x)) (p, -x) = s := by
  by_cases hx : x = 0
  · subst hx
    cases s with
    | nil => simp [push]
    | cons q t =>
      have hq := h.head
      by_cases e : q.1 = p
      · have : q = (p, q.2) := by rw [← e]
        rw [this]; simp [push, hq, Rat.add_zero]
      · simp [push, e]
  · cases s with
    | nil =>
      have : x + -x = 0 := by grind
      simp [push, hx, this]
    | cons q t =>
      by_cases e : q.1 = p
      · by_cases e2 : q.2 + x = 0
        · have hq := h.head
          have e3 : -x = q.2 := by grind
          have e4 : q = (p, q.2) := by rw [← e]
          rw [push_cons, if_pos e, if_pos e2, e3]
          cases t with
          | nil =>
            rw [push_nil, if_neg hq, ← e4]
          | cons u t =>
            have hn := h.ne
            rw [push_cons, if_neg (by rw [← e]; exact fun z => hn z.symm), if_neg hq, ← e4]
        · have e4 : q = (p, q.2) := by rw [← e]
          have e5 : q.2 + x + -x = q.2 := by grind
          rw [push_cons, if_pos e, if_neg e2, push_cons]
          simp only [if_true]
          rw [e5, if_neg h.head, ← e4]
      · have : x + -x = 0 := by grind
        simp only [push, e, hx, if_false]
        simp [push, this]
/-- the row that undoes -/
def turnR (r : Row) : Row := r.reverse.map fun p => (p.1, -p.2)
theorem turn_cons (p : Int × Rat) (r : Row) : turnR (p :: r) = turnR r ++ [(p.1, -p.2)] := by
  unfold turnR
  rw [List.reverse_cons, List.map_append]; rfl
theorem turn_append (r s : Row) : turnR (r ++ s) = turnR s ++ turnR r := by
  unfold turnR
  rw [List.reverse_append, List.map_append]
theorem turn_turn (r : Row) : turnR (turnR r) = r := by
  unfold turnR
  rw [← List.map_reverse, List.reverse_reverse, List.map_map]
  conv => rhs; rw [← (List.map_id r)]
  refine (List.map_congr_left fun p _ => ?_)
  show (p.1, - -p.2) = p
  rw [Rat.neg_neg]
theorem fold_turn : ∀ (r s : Row), Red s → (turnR r).foldl push (r.foldl push s) = s
  | [], s, _ => rfl
  | p :: r, s, h => by
    rw [turn_cons, List.foldl_append, List.foldl_cons (l := r), fold_turn r _ (h.pushed p)]
    exact push_undo h p.1 p.2
/-- same normal form, told by what is left -/
theorem same_iff (r s : Row) : nf r = nf s ↔ nf (r ++ turnR s) = [] := by
  have e : stk (r ++ turnR s) = (turnR s).foldl push (stk r) := by unfold stk; rw [List.foldl_append]
  unfold nf
  rw [e, List.reverse_eq_nil_iff, List.reverse_inj]
  constructor
  · intro h
    rw [h]
    exact fold_turn s [] .nil
  · intro h
    have := fold_turn (turnR s) (stk r) (red_stk r)
    rw [h, turn_turn] at this
    exact this.symm
theorem nf_snoc (r : Row) (p : Int × Rat) : stk (r ++ [p]) = push (stk r) p := by unfold stk; rw [List.foldl_append]; rfl
/-- the normal form has no more letters -/
theorem push_len (s : Row) (p : Int × Rat) : (push s p).length ≤ s.length + 1 := by
  cases s with
  | nil => rw [push_nil]; split <;> simp
  | cons q t => rw [push_cons]; split <;> split <;> simp <;> omega
theorem fold_len : ∀ (r s : Row), (r.foldl push s).length ≤ s.length + r.length
  | [], s => by simp
  | p :: r, s => by
    have h1 := fold_len r (push s p)
    have h2 := push_len s p
    simp only [List.length_cons, List.foldl_cons]
    omega
theorem nf_len (r : Row) : (nf r).length ≤ r.length := by
  have := fold_len r []
  unfold nf stk
  simpa using this
/-! ### reduced rows, the other way round -/
theorem red_append {a b : Row} {p q : Int × Rat} (h1 : Red (a ++ [p])) (h2 : Red (q :: b)) (n : p.1 ≠ q.1) : Red (a ++ p :: q :: b) := by
  induction a with
  | nil => exact .cons h1.head n h2
  | cons x a ih =>
    cases a with
    | nil => exact .cons h1.head h1.ne (ih h1.tail)
    | cons y a => exact .cons h1.head h1.ne (ih h1.tail)
theorem red_rev {r : Row} (h : Red r) : Red r.reverse := by
  induction r with
  | nil => exact .nil
  | cons p r ih =>
    cases r with
    | nil => exact h
    | cons q r =>
      have := ih h.tail
      rw [List.reverse_cons] at this ⊢
      rw [List.reverse_cons, List.append_assoc]
      exact red_append this (.one h.head) (fun e => h.ne e.symm)
theorem red_nf (r : Row) : Red (nf r) := red_rev (red_stk r)
theorem red_map_neg {r : Row} (h : Red r) : Red (r.map fun p => (p.1, -p.2)) := by
  induction r with
  | nil => exact .nil
  | cons p r ih =>
    have hp : -p.2 ≠ 0 := fun z => h.head (by grind)
    cases r with
    | nil => exact .one hp
    | cons q r => exact .cons hp h.ne (ih h.tail)
theorem red_turn {r : Row} (h : Red r) : Red (turnR r) := red_map_neg (red_rev h)
theorem red_right {a b : Row} (h : Red (a ++ b)) : Red b := by
  induction a with
  | nil => exact h
  | cons x a ih => exact ih h.tail
theorem red_left {a b : Row} (h : Red (a ++ b)) : Red a := by
  have h1 := red_rev h
  rw [List.reverse_append] at h1
  have := red_rev (red_right h1)
  simpa using this
/-! ### what acts -/
section
variable {V : Type} (E : Int → Rat → V → V)
def act (r : Row) (v : V) : V := r.foldl (fun v p => E p.1 p.2 v) v
structure Acts : Prop where
  zero : ∀ p v, E p 0 v = v
  add : ∀ p x y v, E p y (E p x v) = E p (x + y) v
variable {E}
theorem act_append (r s : Row) (v : V) : act E (r ++ s) v = act E s (act E r v) := by unfold act; rw [List.foldl_append]
theorem act_cons (p : Int × Rat) (r : Row) (v : V) : act E (p :: r) v = act E r (E p.1 p.2 v) := rfl
theorem act_push (A : Acts E) (s : Row) (p : Int × Rat) (v : V) : act E (push s p).reverse v = E p.1 p.2 (act E s.reverse v) := by
  obtain ⟨p1, p2⟩ := p
  cases s with
  | nil =>
    rw [push_nil]
    split
    · rename_i h; simp only at h; subst h; exact (A.zero _ _).symm
    · rfl
  | cons q t =>
    obtain ⟨q1, q2⟩ := q
    rw [List.reverse_cons, act_append]
    show _ = E p1 p2 (E q1 q2 (act E t.reverse v))
    rw [push_cons]
    by_cases e : q1 = p1
    · subst e
      rw [A.add]
      simp only [if_true]
      split
      · rename_i h; rw [h, A.zero]
      · rw [List.reverse_cons, act_append]; rfl
    · rw [if_neg e]
      split
      · rename_i h
        simp only at h
        subst h
        rw [A.zero, List.reverse_cons, act_append]; rfl
      · rw [List.reverse_cons, List.reverse_cons, act_append, act_append]; rfl
theorem act_nf (A : Acts E) (r : Row) (v : V) : act E (nf r) v = act E r v := by
  have : ∀ (r : Row) (s : Row), act E (r.foldl push s).reverse v = act E r (act E s.reverse v) := fun r => by
    induction r with
    | nil => intro s; rfl
    | cons p r ih => intro s; rw [List.foldl_cons, ih, act_push A]; rfl
  exact this r []
theorem act_turn (A : Acts E) : ∀ (r : Row) (v : V), act E (turnR r) (act E r v) = v
  | [], v => rfl
  | p :: r, v => by
    rw [turn_cons, act_append]
    show E p.1 (-p.2) (act E (turnR r) (act E r (E p.1 p.2 v))) = v
    rw [act_turn A r]
    have : p.2 + -p.2 = 0 := by grind
    rw [A.add, this, A.zero]
theorem act_turn' (A : Acts E) (r : Row) (v : V) : act E r (act E (turnR r) v) = v := by
  have := act_turn A (turnR r) v
  rwa [turn_turn] at this
/-- two rows act alike at v as the rest fixes v, seen behind the other -/
theorem act_same (A : Acts E) (r s : Row) (h : nf (r ++ turnR s) = []) (v : V) : act E r v = act E s v := by
  have h1 := act_nf A (r ++ turnR s) v
  rw [h, act_append] at h1
  have h2 := act_turn' A s (act E r v)
  rw [← h1] at h2
  exact h2.symm
/-- the rest moves no v that both take alike -/
theorem act_rest (A : Acts E) (r s : Row) (v : V) (h : act E r v = act E s v) : act E (nf (r ++ turnR s)) v = v := by
  rw [act_nf A, act_append, h, act_turn A]
end
end K37
namespace K37
/-! ### polynomials: lists of coefficients, no zero at the end -/
def dropZ (l : List Rat) : List Rat := l.dropWhile fun x => decide (x = 0)
def trim (p : List Rat) : List Rat := (dropZ p.reverse).reverse
def pad (p : List Rat) (m : Nat) : List Rat := p ++ List.replicate (m - p.length) 0
def addL (p q : List Rat) : List Rat := List.zipWith (· + ·) (pad p (max p.length q.length)) (pad q (max p.length q.length))
def padd (p q : List Rat) : List Rat := trim (addL p q)
def pscale (x : Rat) (p : List Rat) : List Rat := trim (p.map (· * x))
def pstep (p : List Rat) : List Rat := if p = [] then [] else trim (0 :: p)
def cf (p : List Rat) (k : Nat) : Rat := p.getD k 0
def Tr (p : List Rat) : Prop := ∀ x, p.getLast? = some x → x ≠ 0
theorem cf_nil (k : Nat) : cf [] k = 0 := rfl
theorem cf_zero {p : List Rat} {k : Nat} (h : p.length ≤ k) : cf p k = 0 := by
  unfold cf
  rw [List.getD_eq_getElem?_getD, List.getElem?_eq_none h]; rfl
theorem cf_append_zeros (p : List Rat) (n k : Nat) : cf (p ++ List.replicate n 0) k = cf p k := by
  unfold cf
  rw [List.getD_eq_getElem?_getD, List.getD_eq_getElem?_getD]
  by_cases h : k < p.length
  · rw [List.getElem?_append_left h]
  · rw [List.getElem?_append_right (by omega), List.getElem?_eq_none (l := p) (by omega), List.getElem?_replicate]
    split <;> rfl
theorem cf_pad (p : List Rat) (m k : Nat) : cf (pad p m) k = cf p k := cf_append_zeros _ _ _
theorem trim_split (p : List Rat) : ∃ n, p = trim p ++ List.replicate n 0 := by
  have : ∀ l : List Rat, ∃ n, l = List.replicate n 0 ++ dropZ l := fun l => by
    induction l with
    | nil => exact ⟨0, rfl⟩
    | cons x l ih =>
      unfold dropZ
      rw [List.dropWhile_cons]
      by_cases h : x = 0
      · obtain ⟨n, e⟩ := ih
        refine ⟨n + 1, ?_⟩
        simp only [h, decide_true, if_true, List.replicate_succ, List.cons_append]
        unfold dropZ at e
        rw [← e]
      · exact ⟨0, by simp [h]⟩
  obtain ⟨n, e⟩ := this p.reverse
  refine ⟨n, ?_⟩
  have := congrArg List.reverse e
  rw [List.reverse_reverse, List.reverse_append, List.reverse_replicate] at this
  exact this
theorem cf_trim (p : List Rat) (k : Nat) : cf (trim p) k = cf p k := by
  obtain ⟨n, e⟩ := trim_split p
  conv => rhs; rw [e]
  rw [cf_append_zeros]
theorem tr_trim (p : List Rat) : Tr (trim p) := by
  intro x hx
  unfold trim at hx
  rw [List.getLast?_reverse] at hx
  have : ∀ l : List Rat, (dropZ l).head? = some x → x ≠ 0 := fun l => by
    induction l with
    | nil => intro h; cases h
    | cons y l ih =>
      intro h
      unfold dropZ at h
      rw [List.dropWhile_cons] at h
      by_cases hy : y = 0
      · simp only [hy, decide_true, if_true] at h
        exact ih h
      · simp [hy] at h
        rw [← h]; exact hy
  exact this _ hx
theorem tr_nil : Tr [] := fun x h => by cases h
theorem tr_ext {p q : List Rat} (hp : Tr p) (hq : Tr q) (h : ∀ k, cf p k = cf q k) : p = q := by
  have len : ∀ {p q : List Rat}, Tr p → (∀ k, cf p k = cf q k) → p.length ≤ q.length := fun {p q} hp h => by
    by_cases hn : p = []
    · subst hn; simp
    · have hl := List.length_pos_iff.mpr hn
      refine Nat.le_of_not_lt fun hlt => ?_
      have h1 := h (p.length - 1)
      rw [cf_zero (p := q) (by omega)] at h1
      unfold cf at h1
      rw [List.getD_eq_getElem?_getD, List.getElem?_eq_getElem (by omega)] at h1
      exact hp p[p.length - 1] (by rw [List.getLast?_eq_getElem?, List.getElem?_eq_getElem (by omega)]) h1
  have e : p.length = q.length := Nat.le_antisymm (len hp h) (len hq fun k => (h k).symm)
  refine List.ext_getElem e fun i h1 h2 => ?_
  have := h i
  unfold cf at this
  rw [List.getD_eq_getElem?_getD, List.getD_eq_getElem?_getD, List.getElem?_eq_getElem h1, List.getElem?_eq_getElem h2] at this
  exact this
theorem pad_len (p : List Rat) {m : Nat} (h : p.length ≤ m) : (pad p m).length = m := by
  unfold pad
  rw [List.length_append, List.length_replicate]; omega
theorem addL_len (p q : List Rat) : (addL p q).length = max p.length q.length := by
  unfold addL
  rw [List.length_zipWith, pad_len _ (Nat.le_max_left _ _), pad_len _ (Nat.le_max_right _ _)]
  omega
theorem cf_addL (p q : List Rat) (k : Nat) : cf (addL p q) k = cf p k + cf q k := by
  have h1 := cf_pad p (max p.length q.length) k
  have h2 := cf_pad q (max p.length q.length) k
  rw [← h1, ← h2]
  have l1 := pad_len p (Nat.le_max_left p.length q.length)
  have l2 := pad_len q (Nat.le_max_right p.length q.length)
  unfold addL cf
  rw [List.getD_eq_getElem?_getD, List.getD_eq_getElem?_getD, List.getD_eq_getElem?_getD, List.getElem?_zipWith]
  by_cases h : k < max p.length q.length
  · rw [List.getElem?_eq_getElem (by omega), List.getElem?_eq_getElem (by omega)]; rfl
  · rw [List.getElem?_eq_none (l := pad p _) (by omega), List.getElem?_eq_none (l := pad q _) (by omega)]
    exact (Rat.add_zero 0).symm
theorem cf_padd (p q : List Rat) (k : Nat) : cf (padd p q) k = cf p k + cf q k := by unfold padd; rw [cf_trim, cf_addL]
theorem cf_pscale (x : Rat) (p : List Rat) (k : Nat) : cf (pscale x p) k = cf p k * x := by
  unfold pscale
  rw [cf_trim]
  unfold cf
  rw [List.getD_eq_getElem?_getD, List.getD_eq_getElem?_getD]; rw [List.getElem?_map]
  cases p[k]? with
  | none => simp [Rat.zero_mul]
  | some y => rfl
theorem cf_pstep0 (p : List Rat) : cf (pstep p) 0 = 0 := by
  unfold pstep
  split
  · rfl
  · rw [cf_trim]; rfl
theorem cf_pstep (p : List Rat) (k : Nat) : cf (pstep p) (k + 1) = cf p k := by
  unfold pstep
  split
  · rename_i h; subst h; rfl
  · rw [cf_trim]; rfl
theorem tr_padd (p q : List Rat) : Tr (padd p q) := tr_trim _
theorem tr_pscale (x : Rat) (p : List Rat) : Tr (pscale x p) := tr_trim _
theorem tr_pstep (p : List Rat) : Tr (pstep p) := by
  unfold pstep
  split
  · exact tr_nil
  · exact tr_trim _
theorem padd_nil {p : List Rat} (h : Tr p) : padd p [] = p := tr_ext (tr_padd _ _) h fun k => by rw [cf_padd, cf_nil, Rat.add_zero]
/-! sizes -/
theorem trim_len (p : List Rat) : (trim p).length ≤ p.length := by
  obtain ⟨n, e⟩ := trim_split p
  conv => rhs; rw [e]
  rw [List.length_append]; omega
theorem trim_mem {p : List Rat} {x : Rat} (h : x ∈ trim p) : x ∈ p := by
  obtain ⟨n, e⟩ := trim_split p
  rw [e]
  exact List.mem_append_left _ h
end K37
namespace K37
/-! ### two places -/
abbrev Vc := Rat × Rat
abbrev Mx := Vc × Vc
def vdot (r v : Vc) : Rat := r.1 * v.1 + r.2 * v.2
def mv (N : Mx) (v : Vc) : Vc := (vdot N.1 v, vdot N.2 v)
def vsc (x : Rat) (v : Vc) : Vc := (v.1 * x, v.2 * x)
def vad (v w : Vc) : Vc := (v.1 + w.1, v.2 + w.2)
def movV (N : Mx) (x : Rat) (v : Vc) : Vc := vad v (vsc x (mv N v))
def NilM (N : Mx) : Prop := ∀ v, mv N (mv N v) = (0, 0)
theorem mv_sc (N : Mx) (x : Rat) (v : Vc) : mv N (vsc x v) = vsc x (mv N v) := by
  unfold mv vsc vdot
  refine Prod.ext ?_ ?_ <;> (simp only; grind)
theorem mv_ad (N : Mx) (v w : Vc) : mv N (vad v w) = vad (mv N v) (mv N w) := by
  unfold mv vad vdot
  refine Prod.ext ?_ ?_ <;> (simp only; grind)
theorem mv_zero (N : Mx) : mv N (0, 0) = (0, 0) := by
  unfold mv vdot
  refine Prod.ext ?_ ?_ <;> (simp only; grind)
theorem vsc_zero (x : Rat) : vsc x (0, 0) = (0, 0) := by unfold vsc; simp [Rat.zero_mul]
theorem vad_zero (v : Vc) : vad v (0, 0) = v := by unfold vad; simp [Rat.add_zero]
theorem mov_acts (N : Int → Mx) (h : Rat) (nil : ∀ p, NilM (N p)) : ∀ p x y v, movV (N p) (y * h) (movV (N p) (x * h) v) = movV (N p) ((x + y) * h) v := fun p x y v => by
  unfold movV
  rw [mv_ad, mv_sc, nil p v, vsc_zero, vad_zero]
  unfold vad vsc
  refine Prod.ext ?_ ?_ <;> (simp only; grind)
theorem mov_zero (N : Mx) (h : Rat) (v : Vc) : movV N (0 * h) v = v := by
  unfold movV vad vsc
  refine Prod.ext ?_ ?_ <;> (simp only; grind)
end K37
namespace K37
/-! ### tables of polynomials -/
abbrev Po := List Rat
abbrev Tbl := (Po × Po) × (Po × Po)
def scl (x : Rat) (e t : Po) : Po := if x = 0 then t else padd t (pscale x e)
def sumP (r : Vc) (e : Po × Po) : Po := scl r.2 e.2 (scl r.1 e.1 [])
def col0 (t : Tbl) : Po × Po := (t.1.1, t.2.1)
def col1 (t : Tbl) : Po × Po := (t.1.2, t.2.2)
def ent (r : Vc) (sh : Rat) (e : Po × Po) : Po := pscale sh (pstep (sumP r e))
def lineP (r : Vc) (sh : Rat) (t : Tbl) : Po × Po := (ent r sh (col0 t), ent r sh (col1 t))
def termT (N : Mx) (sh : Rat) (t : Tbl) : Tbl := (lineP N.1 sh t, lineP N.2 sh t)
def addT (t u : Tbl) : Tbl := ((padd t.1.1 u.1.1, padd t.1.2 u.1.2), (padd t.2.1 u.2.1, padd t.2.2 u.2.2))
def ZT : Tbl := (([], []), ([], []))
def ledT (N : Mx) (x : Rat) (t : Tbl) : Tbl := addT t (termT N x t)
def TrT (t : Tbl) : Prop := (Tr t.1.1 ∧ Tr t.1.2) ∧ (Tr t.2.1 ∧ Tr t.2.2)
theorem nil_padd {p : Po} (h : Tr p) : padd [] p = p := tr_ext (tr_padd _ _) h fun k => by rw [cf_padd, cf_nil, Rat.zero_add]
theorem cf_scl (x : Rat) (e t : Po) (k : Nat) : cf (scl x e t) k = cf t k + x * cf e k := by
  unfold scl
  split
  · rename_i h; rw [h, Rat.zero_mul, Rat.add_zero]
  · rw [cf_padd, cf_pscale, Rat.mul_comm x]
theorem tr_scl {x : Rat} {e t : Po} (h : Tr t) : Tr (scl x e t) := by
  unfold scl
  split
  · exact h
  · exact tr_padd _ _
theorem cf_sum (r : Vc) (e : Po × Po) (k : Nat) : cf (sumP r e) k = r.1 * cf e.1 k + r.2 * cf e.2 k := by
  unfold sumP
  rw [cf_scl, cf_scl, cf_nil, Rat.zero_add]
theorem tr_sum (r : Vc) (e : Po × Po) : Tr (sumP r e) := tr_scl (tr_scl tr_nil)
theorem tr_ent (r : Vc) (sh : Rat) (e : Po × Po) : Tr (ent r sh e) := tr_pscale _ _
theorem cf_ent0 (r : Vc) (sh : Rat) (e : Po × Po) : cf (ent r sh e) 0 = 0 := by unfold ent; rw [cf_pscale, cf_pstep0, Rat.zero_mul]
theorem cf_ent (r : Vc) (sh : Rat) (e : Po × Po) (k : Nat) : cf (ent r sh e) (k + 1) = (r.1 * cf e.1 k + r.2 * cf e.2 k) * sh := by unfold ent; rw [cf_pscale, cf_pstep, cf_sum]
theorem zero_of {p : Po} (h : Tr p) (g : ∀ k, cf p k = 0) : p = [] := tr_ext h tr_nil fun k => by rw [g, cf_nil]
theorem term_nil {N : Mx} (h : NilM N) (x y : Rat) (t : Tbl) : termT N y (termT N x t) = ZT := by
  have key : ∀ (a b : Rat) (r : Vc) (e : Po × Po) (q : Po × Po), (∀ k, cf q.1 (k + 1) = (N.1.1 * cf e.1 k + N.1.2 * cf e.2 k) * x) → (∀ k, cf q.2 (k + 1) = (N.2.1 * cf e.1 k + N.2.2 * cf e.2 k) * x) → cf q.1 0 = 0 → cf q.2 0 = 0 →
      (r = N.1 ∨ r = N.2) → ent r y q = [] := fun a b r e q h1 h2 z1 z2 hr => by
    refine zero_of (tr_ent _ _ _) fun k => ?_
    cases k with
    | zero => exact cf_ent0 _ _ _
    | succ k =>
      rw [cf_ent]
      cases k with
      | zero => rw [z1, z2]; simp [Rat.mul_zero, Rat.zero_mul, Rat.add_zero]
      | succ k =>
        rw [h1, h2]
        have hn := h (cf e.1 k, cf e.2 k)
        have e1 := congrArg Prod.fst hn
        have e2 := congrArg Prod.snd hn
        simp only [mv, vdot] at e1 e2
        rcases hr with rfl | rfl
        · have : (N.1.1 * ((N.1.1 * cf e.1 k + N.1.2 * cf e.2 k) * x) + N.1.2 * ((N.2.1 * cf e.1 k + N.2.2 * cf e.2 k) * x)) * y = (N.1.1 * (N.1.1 * cf e.1 k + N.1.2 * cf e.2 k) + N.1.2 * (N.2.1 * cf e.1 k + N.2.2 * cf e.2 k)) * (x * y) := by grind
          rw [this, e1, Rat.zero_mul]
        · have : (N.2.1 * ((N.1.1 * cf e.1 k + N.1.2 * cf e.2 k) * x) + N.2.2 * ((N.2.1 * cf e.1 k + N.2.2 * cf e.2 k) * x)) * y = (N.2.1 * (N.1.1 * cf e.1 k + N.1.2 * cf e.2 k) + N.2.2 * (N.2.1 * cf e.1 k + N.2.2 * cf e.2 k)) * (x * y) := by grind
          rw [this, e2, Rat.zero_mul]
  have c0 : ∀ r, r = N.1 ∨ r = N.2 → ent r y (col0 (termT N x t)) = [] := fun r hr => key 0 0 r (col0 t) _ (fun k => cf_ent N.1 x _ k) (fun k => cf_ent N.2 x _ k) (cf_ent0 _ _ _) (cf_ent0 _ _ _) hr
  have c1 : ∀ r, r = N.1 ∨ r = N.2 → ent r y (col1 (termT N x t)) = [] := fun r hr => key 0 0 r (col1 t) _ (fun k => cf_ent N.1 x _ k) (fun k => cf_ent N.2 x _ k) (cf_ent0 _ _ _) (cf_ent0 _ _ _) hr
  unfold termT lineP ZT
  unfold termT at c0 c1
  refine Prod.ext (Prod.ext ?_ ?_) (Prod.ext ?_ ?_)
  · exact c0 _ (.inl rfl)
  · exact c1 _ (.inl rfl)
  · exact c0 _ (.inr rfl)
  · exact c1 _ (.inr rfl)
theorem add_ZT {t : Tbl} (h : TrT t) : addT t ZT = t := by
  unfold addT ZT
  simp only [padd_nil h.1.1, padd_nil h.1.2, padd_nil h.2.1, padd_nil h.2.2]
theorem tr_addT (t u : Tbl) : TrT (addT t u) := ⟨⟨tr_padd _ _, tr_padd _ _⟩, ⟨tr_padd _ _, tr_padd _ _⟩⟩
theorem tr_term (N : Mx) (x : Rat) (t : Tbl) : TrT (termT N x t) := ⟨⟨tr_ent _ _ _, tr_ent _ _ _⟩, ⟨tr_ent _ _ _, tr_ent _ _ _⟩⟩
theorem ent_nil (r : Vc) (sh : Rat) : ent r sh ([], []) = [] := zero_of (tr_ent _ _ _) fun k => by
  cases k with
  | zero => exact cf_ent0 _ _ _
  | succ k => rw [cf_ent, cf_nil]; simp [Rat.mul_zero, Rat.zero_mul, Rat.add_zero]
theorem term_ZT (N : Mx) (x : Rat) : termT N x ZT = ZT := by
  unfold termT lineP ZT col0 col1
  simp only [ent_nil]
end K37
namespace K37
open PySem PySem.Spec PyProof.Rows PySem.Spec L2
/-! ### lists (true) and tuples (false) alike -/
def SqX (k : Bool) (K : PySem.W.Frag) (H : Hp) (a : Addr) (xs : List V) : Prop := match k with
  | true => SqL K H a xs
  | false => SqT K H a xs
def IterAt (k : Bool) (h : Heap) (it a : Addr) (i : Nat) : Prop := match k with
  | true => h.IsListIter it a i
  | false => h.IsTupleIter it a i
def SeqAtH (k : Bool) (h : Heap) (a : Addr) (its : Array Value) : Prop := match k with
  | true => h.IsList a its
  | false => h.IsTuple a its
def itObj (k : Bool) (a : Addr) : Obj := match k with
  | true => { cls := .type "list_iterator", data := .fields #[.ref a, .int 0 0] }
  | false => { cls := .type "tuple_iterator", data := .fields #[.ref a, .int 0 0] }
section
variable {k : Bool} {X : Cx} {pins : List (Addr × Obj)} {σ : L2.St} {H : Hp} {s : Shared} {a : Addr} {xs ys : List V} {h h' : Heap} {it : Addr} {i : Nat}
theorem sqx_inv (I : Inv X pins σ H s) (q : SqX k X.K H a xs) : ∃ its : List Value, Vals xs its ∧ SeqAtH k s.heap a its.toArray := by
  cases k with
  | true => obtain ⟨its, r, p, _⟩ := I.list q; exact ⟨its, r, p.isList⟩
  | false => obtain ⟨its, r, p, _⟩ := I.tuple q; exact ⟨its, r, p⟩
theorem sqx_inj (I : Inv X pins σ H s) (q : SqX k X.K H a xs) (q' : SqX k X.K H a ys) : xs = ys := by
  cases k with
  | true => exact I.list_inj q q'
  | false => exact I.tuple_inj q q'
theorem seq_lt {its : Array Value} (x : SeqAtH k h a its) : a < h.objs.size := by
  cases k with
  | true => obtain ⟨o, e, _⟩ := (show h.IsList a its from x); exact Heap.lt_size e
  | false => obtain ⟨o, e, _⟩ := (show h.IsTuple a its from x); exact Heap.lt_size e
def LiveO (h : Heap) (b : Addr) : Prop := ∃ o, h.get? b = some o ∧ ∀ v, o.data ≠ .cell v
theorem iter_obj (x : IterAt k h it a i) : LiveO h it := by
  cases k with
  | true => obtain ⟨o, e, _, d⟩ := (show h.IsListIter it a i from x); exact ⟨o, e, fun v q => by rw [d] at q; cases q⟩
  | false => obtain ⟨o, e, _, d⟩ := (show h.IsTupleIter it a i from x); exact ⟨o, e, fun v q => by rw [d] at q; cases q⟩
theorem LiveO.lt {b : Addr} (x : LiveO h b) : b < h.objs.size := by obtain ⟨o, e, _⟩ := x; exact Heap.lt_size e
theorem iter_at (x : IterAt k h it a i) (hk : ∀ o, h.get? it = some o → h'.get? it = some o) : IterAt k h' it a i := by
  cases k with
  | true => exact (show h.IsListIter it a i from x).at hk
  | false => exact (show h.IsTupleIter it a i from x).at hk
end
theorem seq_begins (k : Bool) (a : Addr) (items : Array Value) : Begins (.ref a) (itObj k a) fun h => SeqAtH k h a items := by
  cases k with
  | true => exact begins_list a items
  | false => exact begins_tuple a items
theorem seq_draws (k : Bool) {prog : Program} {w : World} {A : Around} (hh : A.handled = none) {it a : Addr} (hne : a ≠ it) (items : Array Value) :
    Draws prog w A it [it, a] items.size (fun i v => items[i]? = some v) (fun i h => IterAt k h it a i ∧ SeqAtH k h a items) := by
  cases k with
  | true => exact Draws.list hh it a hne items
  | false => exact Draws.tuple hh it a hne items
theorem it_start {k : Bool} {h : Heap} {it a : Addr} (e : h.get? it = some (itObj k a)) : IterAt k h it a 0 := by
  cases k with
  | true => exact ⟨_, e, rfl, rfl⟩
  | false => exact ⟨_, e, rfl, rfl⟩
/-- a new pair stands at the heap's end; only cells of fp have turned -/
theorem pair_new {X : Cx} {pins : List (Addr × Obj)} {σ : L2.St} {H : Hp} {s : Shared} {fp : List Addr} {h2 : Heap} {tk : Nat} {x y : V} {u v : Value} (I : Inv X pins σ H s) (own : ∀ b ∈ fp, FpOk X pins H b) (live : ∀ b ∈ fp, b < s.heap.objs.size)
    (kp : ∀ b o, b ∉ fp → s.heap.get? b = some o → h2.get? b = some o) (hp : h2.get? s.heap.objs.size = some { cls := .type "tuple", data := .seq #[u, v] }) (rx : RelV x u) (ry : RelV y v) :
    Inv X pins σ (upd H s.heap.objs.size (.tup [x, y])) { s with heap := h2, toks := tk } ∧ (∀ b ∈ fp, upd H s.heap.objs.size (.tup [x, y]) b = none) ∧ H s.heap.objs.size = none := by
  refine ⟨I.turnedNew (ch := fp) kp own (Nat.le_refl _) ?_, fun b hb => ?_, I.hok.fresh (Nat.le_refl _)⟩
  · exact ⟨(by decide : 2 ≤ sizeLine), _, .cons rx (.cons ry .nil), _, hp, rfl, _, rfl⟩
  · have := live b hb
    rw [upd_ne (fun z => by rw [z] at this; exact Nat.lt_irrefl _ this)]
    exact (own b hb).1
theorem get_at {its : List Value} {i : Nat} {u v : Value} (e1 : its[i]? = some u) (e2 : its.toArray[i]? = some v) : u = v ∧ i < its.toArray.size := by
  have e3 : its.toArray[i]? = some u := by simpa using e1
  exact ⟨Option.some.inj (e3.symm.trans e2), (Array.getElem?_eq_some_iff.mp e2).1⟩

/-! ### zip -/
def ItzX (k1 k2 : Bool) (K : PySem.W.Frag) (a b : Addr) : It where
  go i H := ∃ (xs ys : List V) (x y : V), SqX k1 K H a xs ∧ SqX k2 K H b ys ∧ xs[i]? = some x ∧ ys[i]? = some y
  yld i H v H' := ∃ T x y, v = .ref T ∧ H T = none ∧ H' = upd H T (.tup [x, y]) ∧ (∀ xs, SqX k1 K H a xs → xs[i]? = some x) ∧ ∀ ys, SqX k2 K H b ys → ys[i]? = some y
  stop i H := ∃ xs ys : List V, SqX k1 K H a xs ∧ SqX k2 K H b ys ∧ i ≤ xs.length ∧ i ≤ ys.length ∧ (i = xs.length ∨ i = ys.length)
structure Apart5 (z t1 t2 i1 i2 a b : Addr) : Prop where
  S : ZipSep2 z t1 t2 i1 i2 [i1, a] [i2, b]
  a1 : a ≠ i1
  b2 : b ≠ i2
theorem apart5 {n a b : Addr} (ha : a < n) (hb : b < n) : Apart5 (n + 4) (n + 2) (n + 3) n (n + 1) a b := by
  have m : ∀ {x y c : Nat}, c ≠ x → c ≠ y → c ∉ [x, y] := fun h1 h2 h => (List.mem_cons.mp h).elim h1 fun e => h2 (List.mem_singleton.mp e)
  refine ⟨⟨?_, ?_, ?_, ?_, by simp, m ?_ ?_, m ?_ ?_, ?_, by simp, m ?_ ?_, m ?_ ?_, m ?_ ?_, m ?_ ?_⟩, ?_, ?_⟩ <;> (simp only [Addr] at *; omega)
/-- the zip's cells at turn i -/
structure ZAt (k1 k2 : Bool) (z t1 t2 i1 i2 a b : Addr) (i : Nat) (h : Heap) : Prop where
  zz : IsZip h z t1 t2 .none
  in_ : IsTupOf2 h t1 (.ref i1) (.ref i2)
  out : ∃ x y, IsTupOf2 h t2 x y
  one : IterAt k1 h i1 a i
  two : IterAt k2 h i2 b i
theorem five {z t1 t2 i1 i2 : Addr} {p : Addr → Prop} (h1 : p z) (h2 : p t1) (h3 : p t2) (h4 : p i1) (h5 : p i2) : ∀ c ∈ [z, t1, t2, i1, i2], p c := fun c hc => by
  simp only [List.mem_cons, List.not_mem_nil, or_false] at hc
  rcases hc with rfl | rfl | rfl | rfl | rfl <;> assumption
theorem not5 {z t1 t2 i1 i2 c : Addr} (h : c ∉ [z, t1, t2, i1, i2]) : c ≠ z ∧ c ≠ t1 ∧ c ≠ t2 ∧ c ≠ i1 ∧ c ≠ i2 := by
  refine ⟨?_, ?_, ?_, ?_, ?_⟩ <;> (rintro rfl; exact h (by simp))
theorem ZAt.live {k1 k2 : Bool} {z t1 t2 i1 i2 a b : Addr} {i : Nat} {h : Heap} (x : ZAt k1 k2 z t1 t2 i1 i2 a b i h) : ∀ c ∈ [z, t1, t2, i1, i2], LiveO h c := by
  obtain ⟨u, v, ho⟩ := x.out
  exact five ⟨_, x.zz, fun v q => nomatch q⟩ ⟨_, x.in_, fun v q => nomatch q⟩ ⟨_, ho, fun v q => nomatch q⟩ (iter_obj x.one) (iter_obj x.two)
theorem turn_zipX {P : Program} {w : World} {K : PySem.W.Frag} {elts : List Expr} {kk : Nat} {tpos : Pos} {k1 k2 : Bool} {a b z t1 t2 i1 i2 : Addr} (D : Apart5 z t1 t2 i1 i2 a b) :
    Turn P w K (.Tuple elts kk tpos) (ItzX k1 k2 K a b) [z, t1, t2, i1, i2] z (ZAt k1 k2 z t1 t2 i1 i2 a b) := by
  refine ⟨List.mem_cons_self, fun i h st => st.live, fun i h h' st k => ?_, ?_, ?_, fun A i s Q E st => wpAny_pyIter_zip st.zz⟩
  · have kz := five (p := fun c => ∀ o, h.get? c = some o → h'.get? c = some o) (k z (by simp)) (k t1 (by simp)) (k t2 (by simp)) (k i1 (by simp)) (k i2 (by simp))
    obtain ⟨u, v, ho⟩ := st.out
    exact ⟨kz z (by simp) _ st.zz, kz t1 (by simp) _ st.in_, ⟨u, v, kz t2 (by simp) _ ho⟩, iter_at st.one (kz i1 (by simp)), iter_at st.two (kz i2 (by simp))⟩
  · rintro X rfl rfl rfl hc i pins s σ H E I own st ⟨xs, ys, x, y, q1, q2, e1, e2⟩
    obtain ⟨its1, v1, p1⟩ := sqx_inv I q1
    obtain ⟨its2, v2, p2⟩ := sqx_inv I q2
    obtain ⟨u1, f1, r1⟩ := v1.get e1
    obtain ⟨u2, f2, r2⟩ := v2.get e2
    have calm : X.A.in1.handled = none := I.ok.hd hc
    obtain ⟨x0, y0, ho⟩ := st.out
    have l1 : i < its1.toArray.size := by simpa using (List.getElem?_eq_some_iff.mp f1).1
    have l2 : i < its2.toArray.size := by simpa using (List.getElem?_eq_some_iff.mp f2).1
    refine wpAny_pyNext_zipD2_item D.S (seq_draws k1 calm D.a1 its1.toArray) (seq_draws k2 calm D.b2 its2.toArray) st.zz st.in_ ho ⟨st.one, p1⟩ ⟨st.two, p2⟩ l1 l2 fun w1 w2 g tk a1 a2 z1 o1 s1 s2 pr sz kp => ?_
    obtain ⟨rfl, _⟩ := get_at f1 a1
    obtain ⟨rfl, _⟩ := get_at f2 a2
    refine ⟨_, rfl, wpAny_letOwnedTupleGo_zip (s := { s with heap := g, toks := tk }) z1 fun g2 z2 sb => ?_⟩
    have live : ∀ c ∈ [z, t1, t2, i1, i2], c < s.heap.objs.size := fun c hc => (st.live c hc).lt
    have up : ∀ c o, c ≠ z → g.get? c = some o → g2.get? c = some o := fun c o hz e => (sb.2 c hz).trans e
    obtain ⟨J, none5, nT⟩ := pair_new (tk := tk) I own live (fun c o nc e => up c o (not5 nc).1 (kp c o (not5 nc).1 (not5 nc).2.2.1 (not5 nc).2.2.2.1 (not5 nc).2.2.2.2 e)) (up _ _ (fun q => Nat.lt_irrefl _ (q ▸ live z (by simp))) pr) r1 r2
    refine ⟨.ref s.heap.objs.size, _, J, rfl, ⟨_, x, y, rfl, nT, rfl, fun l hl => sqx_inj I q1 hl ▸ e1, fun l hl => sqx_inj I q2 hl ▸ e2⟩, ?_, none5⟩
    exact ⟨z2, up _ _ D.S.TIz (kp _ _ D.S.TIz D.S.TITO D.S.TIi1 D.S.TIi2 st.in_), ⟨_, _, up _ _ D.S.TOz o1⟩, iter_at s1.1 fun o => up _ o D.S.zi1.symm, iter_at s2.1 fun o => up _ o D.S.zi2.symm⟩
  · rintro X rfl rfl rfl hc i pins s σ H E I own st ⟨xs, ys, q1, q2, le1, le2, fin⟩
    obtain ⟨its1, v1, p1⟩ := sqx_inv I q1
    obtain ⟨its2, v2, p2⟩ := sqx_inv I q2
    have n1 : its1.toArray.size = xs.length := by simp [v1.length]
    have n2 : its2.toArray.size = ys.length := by simp [v2.length]
    have calm : X.A.in1.handled = none := I.ok.hd hc
    obtain ⟨x0, y0, ho⟩ := st.out
    refine wpAny_pyNext_zipD2_end D.S (seq_draws k1 calm D.a1 its1.toArray) (seq_draws k2 calm D.b2 its2.toArray) st.zz st.in_ ho ⟨st.one, p1⟩ ⟨st.two, p2⟩ (by omega) (by omega) (by omega) fun g tk kp => ⟨rfl, ?_⟩
    exact I.turnedL (t' := tk) (fun c o nc => kp c o (not5 nc).1 (not5 nc).2.2.1 (not5 nc).2.2.2.1 (not5 nc).2.2.2.2) own
def iZipX (K : PySem.W.Frag) (ta : TA) : TI := fun σ H R => ta σ H fun vs H1 => ∃ k1 k2 a b xs ys, vs = [.ref a, .ref b] ∧ SqX k1 K H1 a xs ∧ SqX k2 K H1 b ys ∧ R (ItzX k1 k2 K a b) H1
theorem pi_zipX (K : PySem.W.Frag) {X : Cx} (hK : X.K = K) {e e2 : Expr} {ta : TA} {p pos tpos : Pos} {elts : List Expr} {kk : Nat} (hg : Gl X "zip") (hm : X.mg "zip" = none) (ha : PA X [e, e2] ta)
    (st1 : starEach [e, e2] X.env = (false, eval e X.env) :: starEach [e2] X.env := by rfl) (st2 : (backTo pos (starEach [e2] X.env)).any (·.1) = false := by rfl) :
    PI X (.Tuple elts kk tpos) (.Call (.Name "zip" p) [e, e2] [] pos) (iZipX K ta) := by
  subst hK
  constructor
  intro pins s σ H R I h
  refine Call_ (ld_blt I hg hm PyProof.Rows.boot_zip (PyProof.Rows.callWith_type1 (thn (ha.run pos pins s σ H _ I h) ?_) st1 st2))
  rintro us s1 ⟨vs, H1, I1, rel, k1, k2, a, b, xs, ys, rfl, q1, q2, more⟩
  obtain ⟨u1, u2, rfl, h1, h2⟩ := vals2 rel
  obtain rfl : u1 = Value.ref a := h1
  obtain rfl : u2 = Value.ref b := h2
  obtain ⟨its1, v1, p1⟩ := sqx_inv I1 q1
  obtain ⟨its2, v2, p2⟩ := sqx_inv I1 q2
  refine zip_begins2 (seq_begins k1 a its1.toArray) (seq_begins k2 b its2.toArray) p1 p2 fun g gz gi go g1 g2 sz kp => wpAny_pyIter_zip gz ?_
  have new : ∀ n, FpOk X pins H1 (s1.heap.objs.size + n) := fun n => I1.fpOk (Nat.le_add_right _ _) (I1.hok.fresh (Nat.le_add_right _ _))
  exact ⟨_, _, _, _, H1, rfl, I1.kept (t' := s1.toks) kp, turn_zipX (apart5 (seq_lt p1) (seq_lt p2)), ⟨gz, gi, ⟨_, _, go⟩, it_start g1, it_start g2⟩, five (new 4) (new 2) (new 3) (new 0) (new 1), more⟩
section
variable {T : Tb} {K : PySem.W.Frag} {ρ : List Sl} {ta : TA} {ds es : List PyData}
def zipD (ds es : List PyData) : List PyData := List.zipWith (fun a b => .tuple [a, b]) ds es
/-- what a reading of a list or a tuple is -/
def sqD : Bool → List PyData → PyData
  | true, ds => .list ds
  | false, ds => .tuple ds
theorem sqx_le {k : Bool} {G G1 H : Hp} {a : Addr} {xs : List V} (h : SqX k K G a xs) (l : Le G G1) (l2 : Le G1 H) : SqX k K H a xs := by
  cases k with
  | true =>
    rcases (show SqL K G a xs from h) with (h | ⟨o, h⟩) | h
    · exact .inl (.inl (l2 _ _ (l _ _ h)))
    · exact .inl (.inr ⟨o, l2 _ _ (l _ _ h)⟩)
    · exact .inr h
  | false => exact sqt_le l2 (sqt_le l h)
theorem dq_sqx {k : Bool} {G : Hp} {v : V} (h : Dq K G v (sqD k ds)) : ∃ a xs, v = .ref a ∧ SqX k K G a xs ∧ DqAll K G xs ds := by
  cases k with
  | true => cases h with | lst e qa => exact ⟨_, _, rfl, SqL.of e, qa⟩
  | false => cases h with | tup e qa => exact ⟨_, _, rfl, e, qa⟩
theorem walks_zipX {k1 k2 : Bool} {G : Hp} {a b : Addr} {xs ys : List V} (h1 : SqX k1 K G a xs) (h2 : SqX k2 K G b ys) (q1 : DqAll K G xs ds) (q2 : DqAll K G ys es) : WalksD T K (ItzX k1 k2 K a b) G (zipD ds es) where
  go := fun i G1 H l s hi => by
    unfold zipD at hi
    rw [List.length_zipWith, ← q1.length, ← q2.length] at hi
    exact ⟨xs, ys, xs[i]'(by omega), ys[i]'(by omega), sqx_le h1 l s.le, sqx_le h2 l s.le, by simp, by simp⟩
  stop := fun G1 H l s => by
    have e : (zipD ds es).length = min xs.length ys.length := by unfold zipD; rw [List.length_zipWith, q1.length, q2.length]
    rw [e]
    exact ⟨xs, ys, sqx_le h1 l s.le, sqx_le h2 l s.le, by omega, by omega, by omega⟩
  yld := fun i G1 H x H' d l s y e => by
    obtain ⟨T, u, v, rfl, hT, rfl, f1, f2⟩ := y
    unfold zipD at e
    rw [List.getElem?_zipWith] at e
    cases ed : ds[i]? with
    | none => rw [ed] at e; cases e
    | some d1 =>
      cases ee : es[i]? with
      | none => rw [ed, ee] at e; cases e
      | some d2 =>
        rw [ed, ee] at e
        cases e
        obtain ⟨u', hu, qu⟩ := q1.get ed
        obtain ⟨v', hv, qv⟩ := q2.get ee
        have := (f1 xs (sqx_le h1 l s.le)).symm.trans hu
        cases this
        have := (f2 ys (sqx_le h2 l s.le)).symm.trans hv
        cases this
        have lT : Le G (upd G1 T (.tup [u, v])) := l.trans (Le.upd (s.le.none_of hT))
        exact ⟨_, .new s hT fun z => z, .tup (SqT.of upd_same) (.cons (qu.le lT) (.cons (qv.le lT) .nil))⟩
theorem itd_zip (k1 k2 : Bool) (h : EvDs T K ta ρ [sqD k1 ds, sqD k2 es]) : ItD T K (iZipX K ta) ρ (zipD ds es) := fun H0 G H σ s t x R r =>
  h H0 G H σ s t x _ fun vs G1 H1 g q => by
    cases q with | cons q1 q =>
    cases q with | cons q2 q =>
    cases q
    obtain ⟨a, xs, rfl, s1, a1⟩ := dq_sqx q1
    obtain ⟨b, ys, rfl, s2, a2⟩ := dq_sqx q2
    exact ⟨k1, k2, a, b, xs, ys, rfl, sqx_le s1 (.refl _) g.sub.le, sqx_le s2 (.refl _) g.sub.le, r _ G1 H1 g (walks_zipX s1 s2 a1 a2)⟩
end
end K37
namespace K37
open PySem PySem.Spec PyProof.Rows PySem.Spec L2
/-! ### enumerate of a list or a tuple -/
/-- the heap that enumerate(v) leaves: an iterator o over v, and the counter -/
def enumHeap (h : Heap) (o : Obj) : Heap := (h.push o).push { cls := .type "enumerate", data := .fields #[.none, .bool false, .ref h.objs.size, rawInt 0, .none, .none] }
theorem meets_enum1 {v : Value} {o : Obj} {N : Heap → Prop} (B : Begins v o N) :
    Meets (Builtin.«enumerate.__new__» ⟨[.type "enumerate", v], []⟩) (fun _ R s => N s.heap ∧ R (.ok (.ret (.ref (s.heap.push o).objs.size))) { s with heap := enumHeap s.heap o }) :=
  .of_wp fun prog w A R s both => by
    obtain ⟨hp, gs, dr, tk, os⟩ := s
    obtain ⟨n0, fin⟩ := both
    have sub := sub_enumerate
    have start : ∀ {B' : Around} {E : Value → Shared → Prop} {Q : Value → Shared → Prop}, Q (.ref hp.objs.size) ⟨hp.push o, gs, dr, tk, os⟩ → wpAny (model prog w) B' (pyIter v) Q E ⟨hp, gs, dr, tk, os⟩ := B.iter prog w _ _ ⟨hp, gs, dr, tk, os⟩ _ n0
    wp_walk using start
    refine wpAny_stack_any fun _ => wpAny_pure ?_
    split
    · rename_i c _ _ _ _ _
      cases (c == .type "enumerate") <;> (wp_walk using start; exact ⟨_, rfl, fin⟩)
    · wp_walk using start
      exact ⟨_, rfl, fin⟩
theorem call_enum1 {prog : Program} {w : World} {A : Around} {E : Value → Shared → Prop} {s : Shared} {v : Value} {o : Obj} {N : Heap → Prop} {Q : Value → Shared → Prop} (B : Begins v o N) (n0 : N s.heap)
    (fin : IsEnum (enumHeap s.heap o) (s.heap.objs.size + 1) s.heap.objs.size 0 .none → (enumHeap s.heap o).get? s.heap.objs.size = some o → (∀ b u, s.heap.get? b = some u → (enumHeap s.heap o).get? b = some u) → Q (.ref (s.heap.objs.size + 1)) { s with heap := enumHeap s.heap o }) :
    wpAny (model prog w) A (call (.type "enumerate") [v]) Q E s := by
  have more : (s.heap.push o).objs.size = s.heap.objs.size + 1 := Heap.size_push _ _
  have top : IsEnum (enumHeap s.heap o) (s.heap.push o).objs.size s.heap.objs.size 0 .none := Heap.get?_push_size _ rfl
  refine callType_new F.called_enumerate (by decide) (F.typeCall_enumerate_1 v) (F.newCall_enumerate_1 v) (fun obj => F.args_object_init_2 obj v) F.entry_enumerate_new (meets_enum1 B) ⟨n0, ?_⟩
  show _ ∧ _
  rw [more] at top ⊢
  exact ⟨⟨_, top, rfl⟩, fin top (Heap.get?_push_of_some _ (Heap.get?_push_size _ B.free)) fun b u q => Heap.get?_push_of_some _ (Heap.get?_push_of_some _ q)⟩
def IteX (k : Bool) (K : PySem.W.Frag) (a : Addr) : It where
  go i H := ∃ (xs : List V) (x : V), SqX k K H a xs ∧ xs[i]? = some x
  yld i H v H' := ∃ T x, v = .ref T ∧ H T = none ∧ H' = upd H T (.tup [.int (i : Nat), x]) ∧ ∀ xs, SqX k K H a xs → xs[i]? = some x
  stop i H := ∃ xs : List V, SqX k K H a xs ∧ i = xs.length
/-- the counter and its iterator at turn i -/
structure EAt (k : Bool) (e it a : Addr) (i : Nat) (h : Heap) : Prop where
  en : ∃ old, IsEnum h e it ((i : Nat) : Int) old
  ob : IterAt k h it a i
theorem both {e it : Addr} {p : Addr → Prop} (h1 : p e) (h2 : p it) : ∀ c ∈ [e, it], p c := fun c hc => by
  simp only [List.mem_cons, List.not_mem_nil, or_false] at hc
  rcases hc with rfl | rfl <;> assumption
theorem EAt.live {k : Bool} {e it a : Addr} {i : Nat} {h : Heap} (x : EAt k e it a i h) : ∀ c ∈ [e, it], LiveO h c := by
  obtain ⟨old, he⟩ := x.en
  exact both ⟨_, he, fun v q => nomatch q⟩ (iter_obj x.ob)
theorem turn_enumX {P : Program} {w : World} {K : PySem.W.Frag} {elts : List Expr} {kk : Nat} {tpos : Pos} {k : Bool} {a e it : Addr} (hea : e ≠ a) (hai : a ≠ it) (hei : e ≠ it) :
    Turn P w K (.Tuple elts kk tpos) (IteX k K a) [e, it] e (EAt k e it a) := by
  have far : e ∉ [it, a] := fun h => (List.mem_cons.mp h).elim hei fun q => hea (List.mem_singleton.mp q)
  refine ⟨List.mem_cons_self, fun i h st => st.live, fun i h h' st kp => ?_, ?_, ?_, fun A i s Q E st => ?_⟩
  · obtain ⟨old, he⟩ := st.en
    exact ⟨⟨old, kp e (by simp) _ he⟩, iter_at st.ob (kp it (by simp))⟩
  · rintro X rfl rfl rfl hc i pins s σ H E I own st ⟨xs, x, q1, e1⟩
    obtain ⟨its, v1, p1⟩ := sqx_inv I q1
    obtain ⟨u, f1, r1⟩ := v1.get e1
    obtain ⟨old, he⟩ := st.en
    have calm : X.A.in1.handled = none := I.ok.hd hc
    have l1 : i < its.toArray.size := by simpa using (List.getElem?_eq_some_iff.mp f1).1
    refine wpAny_pyNext_enum_itemC (seq_draws k calm hai its.toArray) he ⟨st.ob, p1⟩ l1 hei far fun y g tk a1 ho s1 pr sz kp => ?_
    obtain ⟨rfl, _⟩ := get_at f1 a1
    refine ⟨_, rfl, wpAny_letOwnedTupleGo_enum (s := { s with heap := g, toks := tk + 1 }) ho fun g2 he2 sb => ?_⟩
    have live : ∀ c ∈ [e, it], c < s.heap.objs.size := fun c hc => (st.live c hc).lt
    have up : ∀ c o, c ≠ e → g.get? c = some o → g2.get? c = some o := fun c o hz q => (sb.2 c hz).trans q
    have apart : ∀ c, c ∉ [e, it] → c ≠ e ∧ c ≠ it := fun c nc => ⟨fun q => nc (by simp [q]), fun q => nc (by simp [q])⟩
    obtain ⟨J, none2, nT⟩ := pair_new (x := V.int (i : Nat)) (tk := tk + 1) I own live (fun c o nc q => up c o (apart c nc).1 (kp c o (apart c nc).1 (apart c nc).2 q)) (up _ _ (fun q => Nat.lt_irrefl _ (q ▸ live e (by simp))) pr) ⟨tk, rfl⟩ r1
    refine ⟨.ref s.heap.objs.size, _, J, rfl, ⟨_, x, rfl, nT, rfl, fun l hl => sqx_inj I q1 hl ▸ e1⟩, ⟨⟨u, ?_⟩, iter_at s1.1 fun o => up _ o hei.symm⟩, none2⟩
    rw [Int.natCast_succ]
    exact he2
  · rintro X rfl rfl rfl hc i pins s σ H E I own st ⟨xs, q1, fin⟩
    obtain ⟨its, v1, p1⟩ := sqx_inv I q1
    have n1 : its.toArray.size = i := by simp [← v1.length, fin]
    obtain ⟨old, he⟩ := st.en
    have calm : X.A.in1.handled = none := I.ok.hd hc
    have o2 := own it (by simp)
    refine wpAny_pyNext_enum_endD (seq_draws k calm hai its.toArray) he (by rw [n1]; exact ⟨st.ob, p1⟩) fun g kp => ⟨rfl, ?_⟩
    exact I.turned (t' := s.toks) (fun b o nb q => kp b o nb q) o2.1 o2.2.1 o2.2.2.2.1 o2.2.2.2.2.1 o2.2.2.2.2.2
  · obtain ⟨old, he⟩ := st.en
    exact wpAny_pyIter_enum he
def iEnumX (K : PySem.W.Frag) (ta : TA) : TI := fun σ H R => ta σ H fun vs H1 => ∃ k a xs, vs = [.ref a] ∧ SqX k K H1 a xs ∧ R (IteX k K a) H1
theorem pi_enumX (K : PySem.W.Frag) {X : Cx} (hK : X.K = K) {e : Expr} {ta : TA} {p pos tpos : Pos} {elts : List Expr} {kk : Nat} (hg : Gl X "enumerate") (hm : X.mg "enumerate" = none) (ha : PA X [e] ta) (st1 : starEach [e] X.env = [(false, eval e X.env)] := by rfl) :
    PI X (.Tuple elts kk tpos) (.Call (.Name "enumerate" p) [e] [] pos) (iEnumX K ta) := by
  subst hK
  constructor
  intro pins s σ H R I h
  refine Call_ (ld_blt I hg hm boot_enumerate (PyProof.Rows.callWith_type1 (thn (ha.run pos pins s σ H _ I h) ?_) st1 rfl))
  rintro us s1 ⟨vs, H1, I1, rel, k, a, xs, rfl, q1, more⟩
  obtain rfl := Vals.ref1 rel
  obtain ⟨its, v1, p1⟩ := sqx_inv I1 q1
  have la := seq_lt p1
  refine call_enum1 (seq_begins k a its.toArray) p1 fun en ob kp => wpAny_pyIter_enum en ?_
  have new : ∀ n, FpOk X pins H1 (s1.heap.objs.size + n) := fun n => I1.fpOk (Nat.le_add_right _ _) (I1.hok.fresh (Nat.le_add_right _ _))
  exact ⟨_, _, _, _, H1, rfl, I1.kept (t' := s1.toks) kp, turn_enumX (Nat.ne_of_gt (Nat.lt_succ_of_lt la)) (Nat.ne_of_lt la) (Nat.succ_ne_self _), ⟨⟨.none, en⟩, it_start ob⟩, both (new 1) (new 0), more⟩
section
variable {T : Tb} {K : PySem.W.Frag} {ρ : List Sl} {ta : TA} {te : TE} {ds es : List PyData}
def enumD (ds : List PyData) : List PyData := ds.mapIdx fun i d => .tuple [.int (i : Nat), d]
theorem walks_enumX {k : Bool} {G : Hp} {a : Addr} {xs : List V} (h1 : SqX k K G a xs) (q1 : DqAll K G xs ds) : WalksD T K (IteX k K a) G (enumD ds) where
  go := fun i G1 H l s hi => by
    unfold enumD at hi
    rw [List.length_mapIdx, ← q1.length] at hi
    exact ⟨xs, xs[i]'(by omega), sqx_le h1 l s.le, by simp⟩
  stop := fun G1 H l s => by
    have e : (enumD ds).length = xs.length := by unfold enumD; rw [List.length_mapIdx, q1.length]
    rw [e]
    exact ⟨xs, sqx_le h1 l s.le, rfl⟩
  yld := fun i G1 H x H' d l s y e => by
    obtain ⟨T, u, rfl, hT, rfl, f1⟩ := y
    unfold enumD at e
    rw [List.getElem?_mapIdx] at e
    cases ed : ds[i]? with
    | none => rw [ed] at e; cases e
    | some d1 =>
      rw [ed] at e
      cases e
      obtain ⟨u', hu, qu⟩ := q1.get ed
      have := (f1 xs (sqx_le h1 l s.le)).symm.trans hu
      cases this
      have lT : Le G (upd G1 T (.tup [.int (i : Nat), u])) := l.trans (Le.upd (s.le.none_of hT))
      exact ⟨_, .new s hT fun z => z, .tup (SqT.of upd_same) (.cons (.int _) (.cons (qu.le lT) .nil))⟩
theorem itd_enum (k : Bool) (h : EvDs T K ta ρ [sqD k ds]) : ItD T K (iEnumX K ta) ρ (enumD ds) := fun H0 G H σ s t x R r =>
  h H0 G H σ s t x _ fun vs G1 H1 g q => by
    cases q with | cons q1 q =>
    cases q
    obtain ⟨a, xs, rfl, s1, a1⟩ := dq_sqx q1
    exact ⟨k, a, xs, rfl, sqx_le s1 (.refl _) g.sub.le, r _ G1 H1 g (walks_enumX s1 a1)⟩
end
end K37
namespace K37
open PySem PySem.Spec PyProof.Rows PySem.Spec L2
/-! ### set(xs) of whole numbers, xs a list -/
abbrev set0 (w : World) : Obj := { cls := .type "set", dict := none, data := .set #[] 0 (.fresh 0 0 (!w.params.followText "set-order")) }
theorem call_set_lst {P : Program} {w : World} {A : Around} {E : Value → Shared → Prop} {s : Shared} {l : Addr} {items : Array Value} {ns : List Int} {Q : Value → Shared → Prop} (calm : A.handled = none) (il : s.heap.IsList l items) (vi : IntsAre items.toList ns) (few : ns.length + 1 < scanBound)
    (fin : ∀ (g : Heap) (tk c : Nat), SetR w g s.heap.objs.size (fun j => decide (j ∈ ns)) c → c ≤ ns.length → (∀ b u, s.heap.get? b = some u → g.get? b = some u) → Q (.ref s.heap.objs.size) { s with heap := g, toks := tk }) :
    wpAny (model P w) A (call (.type "set") [Value.ref l]) Q E s := by
  have len : items.size = ns.length := (Array.length_toList (xs := items)).symm.trans vi.length
  have top : (s.heap.push (set0 w)).get? s.heap.objs.size = some (set0 w) := Heap.get?_push_size _ rfl
  have lt : l < s.heap.objs.size := by obtain ⟨_, e, _⟩ := il; exact Heap.lt_size e
  have more : (s.heap.push (set0 w)).objs.size = s.heap.objs.size + 1 := Heap.size_push _ _
  have ty : Shared.TypeIs { s with heap := s.heap.push (set0 w) } (.ref s.heap.objs.size) "set" := ⟨_, top, rfl⟩
  -- the class's own call: a fresh set, then its __init__
  obtain ⟨cls, tail, mro⟩ := F.called_set.mro
  have w1 := F.called_set.made; have w2 := F.called_set.sub; have w3 := F.called_set.notType; have w4 := F.called_set.canCreate; have w5 := F.typeCall_set_1 (.ref l)
  have w6 := F.called_set.init.lookup; have w7 := F.called_set.init.bind (.ref s.heap.objs.size)
  refine wpAny_call (codeAny_of_tree (show wpAny _ _ (callAny (.type "set") ⟨[.ref l], []⟩) _ _ s from wpAny_pure ⟨Code.quiet_builtin _ (by decide +kernel), codeAny_builtin F.entry_type_call ?_⟩))
  rw [Around.under_plain (weight_type_call_type "set" [Value.ref l] []) rfl]
  repeat any_goals first | assumption | wp_step
  refine codeAny_mono (code_set_led1 (Q₁ := fun obj s₁ => obj = .ref s.heap.objs.size ∧ s₁ = { s with heap := s.heap.push (set0 w) }) (E := E) (.ref l) ⟨rfl, rfl⟩) ?_
  rintro (e | fl) s₁ hr
  · exact hr
  cases fl with
  | next => exact hr.elim
  | brk => exact hr.elim
  | cont => exact hr.elim
  | ret obj =>
  obtain ⟨rfl, rfl⟩ := hr
  repeat any_goals first | assumption | wp_step
  refine codeAny_mono (codeAny_call_builtin (R := wants (fun r s₂ => r = .none ∧ Q (.ref s.heap.objs.size) s₂) E) F.called_set.init.plain F.entry_set_init (check_set_init_1 ty ?_)) fun r₂ s₂ q => ?_
  rotate_left
  · rcases r₂ with e | fl₂
    · exact q
    cases fl₂ with
    | ret r =>
      obtain ⟨rfl, q⟩ := q
      repeat any_goals first | assumption | wp_step
    | next => exact q.elim
    | brk => exact q.elim
    | cont => exact q.elim
  obtain ⟨⟨ocls, odict, odata, oslots⟩, el, rfl, n, rfl⟩ := il
  have el1 : (s.heap.push (set0 w)).get? l = some { cls := .type "list", dict := odict, data := .seq items n, slots := oslots } := Heap.get?_push_of_some _ el
  have il1 : (s.heap.push (set0 w)).IsList l items := ⟨_, el1, rfl, n, rfl⟩
  have no1 := F.sub_list_set
  have no2 := F.sub_list_frozenset
  have no3 : (Value.type "list" == Value.type "dict") = false := by decide
  have quiet : A.in1.in1.in1.handled = none := by simp [calm]
  unfold Builtin.«set.__init__» noKeywords
  unfold Builtin.Frozenset.updateFrom
  generalize hPI : pyIter = PI
  wp_walk
  subst hPI
  refine wpAny_pyIter_list il1 (wpAny_bind (wpAny_runValue ?_))
  have off : l ≠ (s.heap.push (set0 w)).objs.size := by rw [more]; exact Nat.ne_of_lt (Nat.lt_succ_of_lt lt)
  have far : s.heap.objs.size ∉ [(s.heap.push (set0 w)).objs.size, l] := by
    rw [more]
    simp only [List.mem_cons, List.not_mem_nil, or_false, not_or]
    exact ⟨(Nat.succ_ne_self _).symm, Nat.ne_of_gt lt⟩
  have each : ∀ (i : Nat) (v : Value), items[i]? = some v → ∃ k t, ns[i]? = some k ∧ v = .int k t := fun i v hv => by
    have hi : i < ns.length := len ▸ (Array.getElem?_eq_some_iff.mp hv).1
    obtain ⟨t, e⟩ := PyProof.Rows.IntsAre.int_at vi i v (by rw [Array.getElem?_toList]; exact hv)
    rw [List.getD_eq_getElem?_getD, List.getElem?_eq_getElem hi] at e
    exact ⟨_, t, List.getElem?_eq_getElem hi, e⟩
  refine L2.set_update_ints ((Walks.list quiet _ l off items).toS) s.heap.objs.size far ns len few each (items.size - 0) 0 _ (Nat.sub_zero _) (Nat.zero_le _) ⟨⟨_, Heap.get?_push_size _ rfl, rfl, rfl⟩, il1.push _⟩ ?_ ?_
  · exact ⟨0, Nat.le_refl _, setR_new_at (Heap.get?_push_of_some _ top)⟩
  · rintro ⟨g, gens, drawn, tk, os⟩ c mv hc R
    obtain rfl : gens = s.gens := mv.gens
    obtain rfl : drawn = s.drawn := mv.drawn
    obtain rfl : os = s.os := mv.os
    refine wpAny_pure ?_
    refine wpAny_pure ⟨rfl, fin g tk c R (len ▸ hc) fun b u e => ?_⟩
    have hb := Heap.lt_size e
    refine mv.heap b u ?_ (Heap.get?_push_of_some _ (Heap.get?_push_of_some _ e))
    rw [more]
    simp only [List.mem_cons, List.not_mem_nil, or_false, not_or]
    exact ⟨Nat.ne_of_lt hb, Nat.ne_of_lt (Nat.lt_succ_of_lt hb)⟩
def rSetI (K : PySem.W.Frag) (w : World) : List V → Hp → VK → Prop := fun xs H Q => ∃ (l : Addr) (ns : List Int), xs = [V.ref l] ∧ SqL K H l (ns.map V.int) ∧ ns.length < 60 ∧
  ∀ a Sf m, H a = none → (∀ k, Sf k = true ↔ k ∈ ns) → m ≤ ns.length → Q (.ref a) (upd H a (SetO w a Sf m))
theorem cr_setI (K : PySem.W.Frag) (w : World) {X : Cx} (hK : X.K = K) (hw : X.w = w) (hc : X.calm = true) : CallR X (.type "set") (rSetI K w) := by
  subst hK hw
  rintro pins s σ H _ us Q I rel ⟨l, ns, rfl, q1, few, more⟩
  obtain rfl := Vals.ref1 rel
  obtain ⟨its, v1, p1, _⟩ := I.list q1
  refine call_set_lst (P := X.prog) (w := X.w) (I.ok.hd hc) p1.isList (by simpa using RZ.intsAre_vals v1) (by unfold scanBound; omega) fun g tk c R hc k => ?_
  exact ⟨.ref s.heap.objs.size, upd H s.heap.objs.size (SetO X.w s.heap.objs.size _ c), I.laid (t' := tk) k (Nat.le_refl _) (setO_new R), rfl, more _ _ c (I.hok.fresh (Nat.le_refl _)) (fun j => decide_eq_true_iff) hc⟩
theorem cr_sortedSetK (w : World) {X : Cx} (hw : X.w = w) (hc : X.calm = true) : CallR X (.builtin "sorted") (rSortedSet w) := hw ▸ cr_sortedSet hc
/-! ### in order, each once -/
def insU (k : Int) : List Int → List Int
  | [] => [k]
  | x :: xs => if k < x then k :: x :: xs else if k = x then x :: xs else x :: insU k xs
def sortU : List Int → List Int
  | [] => []
  | x :: xs => insU x (sortU xs)
theorem mem_insU {k j : Int} : ∀ {l : List Int}, j ∈ insU k l ↔ j = k ∨ j ∈ l
  | [] => by simp [insU]
  | x :: xs => by
    unfold insU
    split
    · simp
    · split
      · rename_i h; subst h; simp
      · simp only [List.mem_cons, mem_insU (l := xs)]
        exact ⟨fun h => h.elim (fun e => .inr (.inl e)) fun h => h.elim .inl fun h => .inr (.inr h), fun h => h.elim (fun e => .inr (.inl e)) fun h => h.elim .inl fun h => .inr (.inr h)⟩
theorem mem_sortU {j : Int} : ∀ {l : List Int}, j ∈ sortU l ↔ j ∈ l
  | [] => by simp [sortU]
  | x :: xs => by rw [sortU, mem_insU, mem_sortU (l := xs), List.mem_cons]
theorem insU_up {k : Int} : ∀ {l : List Int}, l.Pairwise (· < ·) → (insU k l).Pairwise (· < ·)
  | [], _ => by simp [insU]
  | x :: xs, h => by
    have h1 := (List.pairwise_cons.mp h).1
    have h2 := (List.pairwise_cons.mp h).2
    rw [insU]
    split
    · refine List.pairwise_cons.mpr ⟨fun y hy => ?_, h⟩
      exact (List.mem_cons.mp hy).elim (fun e => by omega) fun e => by have := h1 y e; omega
    · split
      · exact h
      · refine List.pairwise_cons.mpr ⟨fun y hy => ?_, insU_up h2⟩
        rcases mem_insU.mp hy with e | e
        · omega
        · exact h1 y e
theorem sortU_up : ∀ l : List Int, (sortU l).Pairwise (· < ·)
  | [] => .nil
  | x :: xs => insU_up (sortU_up xs)
theorem up_unique : ∀ {l m : List Int}, l.Pairwise (· < ·) → m.Pairwise (· < ·) → (∀ k, k ∈ l ↔ k ∈ m) → l = m
  | [], [], _, _, _ => rfl
  | [], y :: m, _, _, h => by have := (h y).mpr (by simp); simp at this
  | x :: l, [], _, _, h => by have := (h x).mp (by simp); simp at this
  | x :: l, y :: m, ul, um, h => by
    obtain ⟨a1, a2⟩ := List.pairwise_cons.mp ul
    obtain ⟨b1, b2⟩ := List.pairwise_cons.mp um
    have e : x = y := by
      rcases List.mem_cons.mp ((h x).mp (by simp)) with e | e
      · exact e
      · rcases List.mem_cons.mp ((h y).mpr (by simp)) with e2 | e2
        · exact e2.symm
        · have := b1 x e; have := a1 y e2; omega
    subst e
    have : l = m := up_unique a2 b2 fun k => by
      constructor
      · intro hk
        rcases List.mem_cons.mp ((h k).mp (List.mem_cons_of_mem _ hk)) with e | e
        · have := a1 k hk; omega
        · exact e
      · intro hk
        rcases List.mem_cons.mp ((h k).mpr (List.mem_cons_of_mem _ hk)) with e | e
        · have := b1 k hk; omega
        · exact e
    rw [this]
section
variable {T : Tb} {K : PySem.W.Frag} {ρ : List Sl} {te : TE} {w : World}
theorem not_tbl_setO {w : World} {a : Addr} {S : Int → Bool} {n : Nat} : ¬ IsTbl (SetO w a S n) := fun h => h
/-- sorted(set(xs)) -/
theorem evf_sortSet {ns : List Int} (h : EvD T K te ρ (.list (ns.map .int))) (hn : ns.length < 60) : EvF T K (tCB (rSortedSet w) (tCons (tCB (rSetI K w) (tCons te tNil)) tNil)) ρ ((sortU ns).map .int) := fun H0 G H σ s t x Q q =>
  h H0 G H σ s t x _ fun v G1 H1 g1 q1 => by
    cases q1 with | lst e qa =>
    have := qa.ints
    subst this
    refine ⟨_, ns, rfl, SqL.of (g1.sub.le _ _ e), hn, fun a Sf m ha hS hm => ?_⟩
    have g2 : Gw T G H G1 (upd H1 a (SetO w a Sf m)) := g1.trans (.newH g1.sub ha)
    refine ⟨a, Sf, m, rfl, upd_same, by omega, fun ns' p up mem hl hp => ?_⟩
    have e2 : ns' = sortU ns := up_unique up (sortU_up ns) fun k => by rw [mem k, hS k, mem_sortU]
    subst e2
    exact q p _ G1 _ (g2.trans (.newH g2.sub hp)) (g2.ex.none_of hp) (g2.sub.le.none_of hp) upd_same (dqInts _)
end
end K37
namespace K37
open PySem PySem.Spec PyProof.Rows L2 PySem.W
/-! ### sorted(xs, key=lambda own: (len(own), own)), xs a list of tuples of whole numbers -/
abbrev intsV (ws : List Int) : PyData := .tuple (ws.map .int)
abbrev keyW (ws : List Int) : PyData := .tuple [.int ws.length, .tuple (ws.map .int)]
theorem readsInts {h : Heap} : ∀ {ws : List Int} {us : List Value}, Vals (ws.map V.int) us → ReadsAll h us (ws.map PyData.int) []
  | [], _, .nil => .nil
  | n :: ns, _, .cons r t => by
    obtain ⟨k, rfl⟩ := r
    have := ReadsAll.cons (.int n k) (readsInts (h := h) t)
    simpa using this
section
variable {X : Cx} {pins : List (Addr × Obj)} {σ : L2.St} {H : Hp} {s : Shared} {E : Value → Shared → Prop}
theorem own_read {b : Addr} {x : Str} {pos : Pos} {Q : Value → Shared → Prop} (I : Inv X pins σ H s) (hσ : σ[0]? = some (some (.ref b))) (hN : X.N[0]? = some x) (hk : X.env.scope.names.lookup x = some .local) (h : Q (.ref b) s) (hd : (x == ("__debug__" : Str)) = false := by decide) :
    wpAny (model X.prog X.w) X.A (eval (.Name x pos) X.env) Q E s := by
  obtain ⟨m, hn, hl⟩ := I.loc
  obtain ⟨u, r, l⟩ := hl 0 x _ hN hσ (.inl hk)
  obtain rfl : u = Value.ref b := r
  rcases l with ⟨hk2, hm⟩ | ⟨hk2, c, hc, hcell⟩
  · exact wpAny_Name (wpAny_loadName_local I.ok.kind hk2 hn hm h) hd
  · have hk' : X.env.scope.names.lookup x = some .cell ∨ X.env.scope.names.lookup x = some .free := hk2
    rcases hk' with z | z <;> (rw [hk] at z; cases z)
theorem key_body {b : Addr} {ws : List Int} {p1 p2 p3 p4 p5 : Pos} {x1 : Nat} {Q : Value → Shared → Prop} (I : Inv X pins σ H s) (hσ : σ[0]? = some (some (.ref b))) (hN : X.N[0]? = some ("own" : Str)) (hk : X.env.scope.names.lookup ("own" : Str) = some .local) (hq : SqT X.K H b (ws.map V.int)) (hg : Gl X "len") (hm : X.mg "len" = none)
    (h : ∀ t, Q (.ref s.heap.objs.size) { s with heap := s.heap.push { cls := .type "tuple", data := .seq #[.int ws.length t, .ref b] }, toks := s.toks + 1 + 1 }) :
    wpAny (model X.prog X.w) X.A (eval (.Tuple [.Call (.Name "len" p1) [.Name "own" p2] [] p3, .Name "own" p4] x1 p5) X.env) Q E s := by
  refine wpAny_Tuple_spliced (args_cons ?_ rfl)
  refine Call_ (ld_blt I hg hm boot_len (PyProof.Rows.callWith_builtin1 (PyProof.Rows.args_cons (own_read I hσ hN hk (PyProof.Rows.args_nil ?_)) rfl) rfl rfl))
  obtain ⟨its, r, pl, _⟩ := I.tuple hq
  have hl := r.length
  have hn := line63
  refine len_tuple pl (by simp only [List.size_toArray] <;> omega) ?_
  have e : ((its.toArray.size : Nat) : Int) = (ws.length : Int) := by rw [List.size_toArray, ← hl, List.length_map]
  rw [e]
  refine args_cons (own_read (I.tok _) hσ hN hk (args_nil ?_)) rfl
  exact ⟨by show 2 ≤ sizeLine; decide, h (s.toks + 1)⟩
end
structure LamOk (params : Arguments) (body : Expr) (scope : Scope) : Prop where
  hbody : ∃ p1 p2 p3 p4 p5 x1, body = .Tuple [.Call (.Name "len" p1) [.Name "own" p2] [] p3, .Name "own" p4] x1 p5
  fs : FnScope ["own"] ["own"] scope
  loc : scope.names.lookup ("own" : Str) = some .local
  len : scope.names.lookup ("len" : Str) = some .globalImplicit
  dflt : ∀ env, defaultsOf params env = ([], [])
  bind : ∀ (q : Str) (pm cdv ctv : Value) (u : Value), bindArgs (kla_fn "<lambda>" q params body scope [] pm cdv ctv) ⟨[u], []⟩ = pure [(("own" : Str), u)]
theorem clo_nil {cells : List (Str × Addr)} : ∀ {ns : List (Str × NameKind)}, (∀ y ∈ ns, y.2 ≠ .free) → cloFrom cells ns [] = []
  | [], _ => rfl
  | (x, k) :: r, h => by
    have hk : k ≠ .free := h (x, k) (by simp)
    have ih := clo_nil (cells := cells) (ns := r) fun y hy => h y (List.mem_cons_of_mem _ hy)
    cases k <;> first | exact ih | exact absurd rfl hk
section
variable {X : Cx} {σ : L2.St} {H : Hp} {s : Shared} {pins : List (Addr × Obj)}
/-- one call of the key -/
theorem key_call {params : Arguments} {body : Expr} {scope : Scope} {q : Str} {f c' b : Addr} {pm ctv : Value} {ws : List Int} {A : Around} {E : Value → Shared → Prop} (L : LamOk params body scope) (I : Inv X pins σ H s) (hA : A.frames = X.A.frames) (hr : Room 2 A)
    (hf : s.heap.get? f = some (kla_obj "<lambda>" q params body scope [] pm c' ctv)) (hc : H c' = some (LamX.CodeO c' q)) (hq : SqT X.K H b (ws.map V.int)) (hm : X.mg "len" = none) :
    wpAny (model X.prog X.w) A (call (.ref f) [.ref b]) (KeyPure (keyW ws) s) E s := by
  have e0 : Env0 X.prog X.w X.K X.mg X.base A X.stack s H := ⟨hA.trans I.env0.frames, I.env0.mod, I.env0.bs, I.env0.bsz, I.env0.funs, I.env0.frf, I.env0.hok, I.env0.bare⟩
  obtain ⟨⟨oc, vs, t, hoc, hdc, hvc⟩, _, _⟩ := I.hok c' _ hc
  have rv : Vals [V.ref b] [Value.ref b] := .cons rfl .nil
  have lim := e0.mod.nolimit.keeps fun b o e => (e0.bs b o e).1
  obtain ⟨p1, p2, p3, p4, p5, x1, rfl⟩ := L.hbody
  have rc : codeAny (model X.prog X.w) A (.call (.ref f) ⟨[.ref b], []⟩) (fun r s' => ∃ v, r = .ok (.ret v) ∧ KeyPure (keyW ws) s v s') s := by
    refine kla_callFunE hr.depth hf rfl L.fs.co L.fs.gen rfl ⟨c', oc, vs, t, rfl, hoc, hdc, hvc⟩ ?_
    rw [L.bind]
    refine wpAny_pure ?_
    have hkind : ∀ y ∈ [(("own" : Str), Value.ref b)], scope.names.lookup y.1 = some .local ∨ (scope.names.lookup y.1 = some .cell ∧ ((cellsFrom (s.heap.objs.size + 1) scope.names []).lookup y.1).isSome = true) := fun y hy => by
      obtain rfl := List.mem_singleton.mp hy
      exact .inl L.loc
    refine wpAny_newFunctionEnv_cells L.fs.kind hkind fun env he s1 x => ?_
    subst he
    refine ⟨lim.keeps x.toInCall.keep, ?_⟩
    obtain ⟨h1, tk, e1, k1⟩ := x.done
    have J : Inv (cxOf (fun _ _ _ _ _ _ => True) X.prog X.w X.K X.mg X.base ["own"] q scope f (.ref c') A X.stack s H (fun _ _ _ => False)) [] (L2.start ["own"] [V.ref b]) H s1 := inv_start L.fs hr.hd e0 rfl rv x
    refine kla_codeExpr ?_
    refine key_body J rfl rfl L.loc hq (show Gl _ ("len" : Str) from L.len) hm fun t2 => ?_
    refine ⟨_, rfl, ?_⟩
    subst e1
    refine ⟨_, _, rfl, fun b o e => Heap.get?_push_of_some _ (k1 b o e), ?_⟩
    obtain ⟨its, r, ⟨o, ho, hcl, n, hd⟩, hz⟩ := J.tuple hq
    have hb2 : (h1.push { cls := .type "tuple", data := .seq #[.int ws.length t2, .ref b] }).get? b = some o := Heap.get?_push_of_some _ ho
    have r2 : Reads (h1.push { cls := .type "tuple", data := .seq #[.int ws.length t2, .ref b] }) (.ref b) (intsV ws) [] := .tuple hb2 hcl hd (by simpa using readsInts r)
    exact .tuple (o := { cls := .type "tuple", data := .seq #[.int ws.length t2, .ref b] }) (Heap.get?_push_size _ rfl) rfl rfl (ReadsAll.cons (.int _ _) (ReadsAll.cons r2 .nil))
  exact wpAny_call (codeAny_mono rc fun r s' hq => by
    obtain ⟨v, rfl, k⟩ := hq
    exact k)
end
/-! ### the lambda is made -/
section
variable {X : Cx} {σ : L2.St} {H : Hp} {s : Shared} {pins : List (Addr × Obj)}
theorem codeO_no {c : Addr} {q : Str} : ¬ IsTbl (LamX.CodeO c q) := fun z => z
theorem tabS_ex {H H1 : Hp} {P : Addr} {q : Str} (t : LamX.TabS H P q) (e : Ex H H1) (p : H1 P = H P) : LamX.TabS H1 P q := by
  obtain ⟨ps, t1, t2, t3⟩ := t
  refine ⟨ps, p.trans t1, t2, fun pos cv hc => ?_⟩
  obtain ⟨c, c1, c2⟩ := t3 pos cv hc
  rcases e c _ c2 with z | ⟨z, _⟩
  · exact ⟨c, c1, z⟩
  · exact absurd z codeO_no
theorem lam_new {c P : Addr} {q : Str} {params : Arguments} {body : Expr} {scope : Scope} {pos : Pos} {E Q : Value → Shared → Prop} (I : Inv X pins σ H s) (tb : LamX.TabB X.base X.mg c P) (code : X.env.code = .ref c) (hq : X.env.qual ++ "<lambda>" = q)
    (t : LamX.TabS H P q) (nod : defaultsOf params X.env = ([], [])) (nof : ∀ y ∈ scope.names, y.2 ≠ .free)
    (fin : ∀ (f c' : Addr) (pm ctv : Value) (H1 : Hp) (s1 : Shared), Inv X pins σ H1 s1 → Ex H H1 → LamX.TabS H1 P q → s1.heap.get? f = some (kla_obj "<lambda>" q params body scope [] pm c' ctv) → H1 c' = some (LamX.CodeO c' q) → Q (.ref f) s1) : wpAny (model X.prog X.w) X.A (eval (.Lambda params body scope pos) X.env) Q E s := by
  subst hq
  obtain ⟨ps, tP, tT, tC⟩ := t
  have blt : s.heap.BuiltinsAt X.mg P := tb.bm.keeps I.bk
  have inP : s.heap.get? P = some { cls := .none, data := .fields ps } := I.hok P _ tP
  have shut := closure_ok (env := X.env) (scope := scope) fun y hy e => absurd e (nof y hy)
  have nil : cloFrom X.env.cells scope.names [] = [] := clo_nil nof
  rw [nil] at shut
  have gl := I.mod.glob.keeps I.bk
  have cd := tb.code.keeps I.bk
  refine kla_eval nod ?_
  cases known : codeAmong pos ps.toList with
  | some cv =>
    obtain ⟨c', rfl, k⟩ := tC pos cv known
    refine kla_makeFunctionHit shut I.ok.glob gl code cd inP tT known blt fun ctv g tk up sz => ?_
    exact fin _ c' _ ctv H _ (I.kept fun b o e => Heap.get?_push_of_some _ (up b o e)) (.refl H) ⟨ps, tP, tT, tC⟩ (Heap.get?_push_size _ rfl) k
  | none =>
    refine kla_makeFunction shut I.ok.glob gl code cd inP tT known tb.gP blt fun c' ctv g tk up ge lt rec_ tab => ?_
    obtain ⟨c2, oc, vs, tt, e2, g1, g2, g3⟩ := rec_
    obtain rfl : c' = c2 := by injection e2
    have nC : H c' = none := I.hok.fresh ge
    have J := LamX.inv_table (t' := tk) (more := #[rawInt pos.line, rawInt pos.col, .ref c']) I tP (fun b o hb e => Heap.get?_push_of_some _ (up b o hb e)) (Heap.get?_push_of_some (kla_obj "<lambda>" (X.env.qual ++ "<lambda>") params body scope [] ((X.mg "__name__").getD .none) c' ctv) tab) ge ⟨oc, vs, tt, Heap.get?_push_of_some _ g1, g2, g3⟩
    have cP : P ≠ c' := fun z => by rw [z, nC] at tP; cases tP
    have ex : Ex H (upd (upd H P (.tbl (ps ++ #[rawInt pos.line, rawInt pos.col, .ref c']))) c' (LamX.CodeO c' (X.env.qual ++ "<lambda>"))) := fun b o e => by
      rw [upd_ne (ne_of_none e nC)]
      by_cases hb : b = P
      · subst hb
        rw [tP] at e
        cases e
        exact .inr ⟨trivial, _, upd_same, trivial⟩
      · rw [upd_ne hb]
        exact .inl e
    refine fin _ c' _ ctv _ _ J ex ⟨_, by rw [upd_ne cP, upd_same], ?_, fun p' cv hcv => ?_⟩ (Heap.get?_push_size _ rfl) upd_same
    · rw [Array.toList_append]
      exact PySem.TriplesOk_snoc _ _ _ _ tT
    · rw [Array.toList_append] at hcv
      rcases LamX.among_app _ tT hcv with z | z
      · obtain ⟨c0, e0, k0⟩ := tC p' cv z
        rcases ex c0 _ k0 with k1 | ⟨k1, _⟩
        · exact ⟨c0, e0, k1⟩
        · exact absurd k1 codeO_no
      · exact ⟨c', z, upd_same⟩
end
end K37
namespace K37
open PySem PySem.Spec PyProof.Rows PySem.Spec L2
open PySem.W (dataLe EachIs KeyPure alike alikeAll)
/-! ### sorted by that key -/
abbrev WordV := Addr × List Int
theorem ints_alike : ∀ (xs ys : List Int), alikeAll (xs.map PyData.int) (ys.map PyData.int) = true
  | [], _ => by cases ‹List Int› <;> rfl
  | _ :: _, [] => rfl
  | x :: xs, y :: ys => by
    show (alike (.int x) (.int y) && alikeAll (xs.map PyData.int) (ys.map PyData.int)) = true
    rw [ints_alike xs ys]; rfl
theorem keyW_alike (a b : List Int) : alike (keyW a) (keyW b) = true := by
  show (alike (.int a.length) (.int b.length) && (alike (.tuple (a.map PyData.int)) (.tuple (b.map PyData.int)) && alikeAll [] [])) = true
  have : alike (.tuple (a.map PyData.int)) (.tuple (b.map PyData.int)) = true := ints_alike a b
  rw [this]; rfl
theorem ints_depth : ∀ xs : List Int, PyData.depthAll (xs.map PyData.int) = 0
  | [] => rfl
  | x :: xs => by
    show max (PyData.depth (.int x)) (PyData.depthAll (xs.map PyData.int)) = 0
    rw [ints_depth xs]; rfl
theorem keyW_depth (a : List Int) : (keyW a).depth = 2 := by
  simp [keyW, PyData.depth, PyData.depthAll, ints_depth]
def tSortLam (P : Addr) (q : Str) (K : PySem.W.Frag) (te : TE) : TE := fun σ H Q => te σ H fun x H1 => LamX.TabS H1 P q ∧ ∃ (a : Addr) (ps : List WordV), x = .ref a ∧ SqL K H1 a (ps.map fun p => V.ref p.1) ∧ (∀ p ∈ ps, SqT K H1 p.1 (p.2.map V.int)) ∧ ps.length ≤ 100000 ∧
  ∀ H2 l, Ex H1 H2 → LamX.TabS H2 P q → H2 l = none → Q (.ref l) (upd H2 l (.lst ((ps.mergeSort (dataLe false fun p => keyW p.2)).map fun p => V.ref p.1)))
theorem sql_ex {K : PySem.W.Frag} {H H1 : Hp} {a : Addr} {xs : List V} (e : Ex H H1) (q : SqL K H a xs) : SqL K H1 a xs := by
  rcases q with (q | ⟨o, q⟩) | q
  · exact .inl (.inl ((e _ _ q).resolve_right fun z => z.1))
  · exact .inl (.inr ⟨o, (e _ _ q).resolve_right fun z => z.1⟩)
  · exact .inr q
theorem sqt_ex {K : PySem.W.Frag} {H H1 : Hp} {a : Addr} {xs : List V} (e : Ex H H1) (q : SqT K H a xs) : SqT K H1 a xs := by
  rcases q with (q | ⟨o, q⟩) | q
  · exact .inl (.inl ((e _ _ q).resolve_right fun z => z.1))
  · exact .inl (.inr ⟨o, (e _ _ q).resolve_right fun z => z.1⟩)
  · exact .inr q
theorem each_refs {ps : List WordV} : ∀ {us : List Value}, Vals (ps.map fun p => V.ref p.1) us → EachIs (fun v p => v = Value.ref p.1) us ps := by
  induction ps with
  | nil => intro us r; cases r; exact .nil
  | cons p ps ih =>
    intro us r
    cases r with | cons r1 r2 => exact .cons r1 (ih r2)
theorem vals_each {ps : List WordV} {us : List Value} (e : EachIs (fun v p => v = Value.ref p.1) us ps) : Vals (ps.map fun p => V.ref p.1) us := by
  induction e with
  | nil => exact .nil
  | cons h _ ih => exact .cons h ih
theorem pe_sortLam (K : PySem.W.Frag) {X : Cx} (hK : X.K = K) {c P : Addr} {q : Str} {params : Arguments} {body : Expr} {scope : Scope} {e : Expr} {te : TE} {p pos lp kp : Pos} (L : LamOk params body scope) (tb : LamX.TabB X.base X.mg c P) (code : X.env.code = .ref c) (hq : X.env.qual ++ "<lambda>" = q)
    (hr : Room 5 X.A) (hc : X.calm = true) (hg : Gl X "sorted") (hm : X.mg "sorted" = none) (hl : X.mg "len" = none) (he : PE X e te)
    (s0 : starEach [e] X.env = (false, eval e X.env) :: starEach [] X.env := by rfl) (s1 : backTo pos (starEach [e] X.env) = (false, eval e X.env) :: backTo pos (starEach [] X.env) := by rfl)
    (s2 : (backTo pos (starEach [e] X.env)).any (·.1) = false := by rfl) (s3 : (backToKw pos (keywordEach [⟨some "key", .Lambda params body scope lp, kp⟩] X.env)).all (·.1.isSome) = true := by rfl)
    (s4 : (backToKw pos (keywordEach [⟨some "key", .Lambda params body scope lp, kp⟩] X.env)).any (·.1.isNone) = false := by rfl)
    (s5 : (backToKw pos (keywordEach [⟨some "key", .Lambda params body scope lp, kp⟩] X.env)).filterMap (·.1) = [("key" : Str)] := by rfl)
    (s6 : (backToKw pos (keywordEach [⟨some "key", .Lambda params body scope lp, kp⟩] X.env)).map (·.2) = [do let v ← eval (.Lambda params body scope lp) X.env; standAt pos; pure v] := by rfl) :
    PE X (.Call (.Name "sorted" p) [e] [⟨some "key", .Lambda params body scope lp, kp⟩] pos) (tSortLam P q K te) := by
  subst hK
  constructor
  intro pins s σ H Q I h
  refine wpAny_Call_Name_kw (ld_blt I hg hm rfl ?_)
  refine PyProof.Rows.callWith_kw (PyProof.Rows.args_cons (thn (he.run pins s σ H _ I h) ?_) s0) s1 s2 s3 s4
  rintro u s₁ ⟨v, H1, I1, rel, tab, a, ps, rfl, q1, q2, few, fin⟩
  obtain rfl : u = Value.ref a := rel
  refine PyProof.Rows.args_nil (?_ : wpAny _ _ _ _ _ s₁)
  rw [s6]
  refine wpAny_evalAll_cons (wpAny_bind (lam_new I1 tb code hq tab (L.dflt _) L.fs.nofree fun f c' pm ctv H2 s₂ I2 ex tab2 fobj cobj => wpAny_bind (wpAny_standAt (wpAny_pure (wpAny_evalAll_nil ?_)))))
  rw [s5]
  have q3 := sql_ex ex q1
  have q4 := fun p hp => sqt_ex ex (q2 p hp)
  obtain ⟨its, v1, p1, z1⟩ := I2.list q3
  have each := each_refs v1
  have un := hr.un
  refine PySem.W.sorted_key_data (R := fun v p => v = Value.ref p.1) (f := .ref f) (b := false) (fun p : WordV => keyW p.2) p1.isList each (fun d hd d' hd' => ?_) (.inl fun d hd => ?_) (by rw [List.length_map] at z1; exact z1) (fun x _ => ?_) (ksk_s1 _ _) (fun _ => ksk_l1 _ _) (fun _ => ksk_t1 _ _) (fun v x hv hx g tk up => ?_) fun out cnt g tk up none1 new len srt => ?_
  · obtain ⟨x, _, rfl⟩ := List.mem_map.mp hd
    obtain ⟨y, _, rfl⟩ := List.mem_map.mp hd'
    exact keyW_alike _ _
  · obtain ⟨x, _, rfl⟩ := List.mem_map.mp hd
    exact ⟨_, _, rfl⟩
  · show X.A.units + 2 + (keyW x.2).depth < cLine
    rw [keyW_depth]; omega
  · subst hv
    have r3 : Room 2 X.A.in1.in1 := ((hr.mono (show 4 ≤ 5 by decide)).in1).in1
    exact key_call L (I2.kept (t' := tk) up) rfl r3 (up _ _ fobj) cobj (q4 x hx) hl
  · refine ⟨.ref (s₂.heap.objs.size + 1), _, I2.laid (t' := tk) up (Nat.le_succ _) ?_, rfl, fin H2 _ ex tab2 (I2.hok.fresh (Nat.le_succ _))⟩
    refine ⟨?_, out, cnt, vals_each srt, new⟩
    rw [List.length_map, List.length_mergeSort]
    exact sz_ok few
section
variable {K : PySem.W.Frag} {ρ : List Sl} {te : TE} {P : Addr} {q : Str}
theorem words_of {G : Hp} : ∀ {vs : List V} {wss : List (List Int)}, DqAll K G vs (wss.map intsV) → ∃ ps : List WordV, vs = ps.map (fun p => V.ref p.1) ∧ wss = ps.map (·.2) ∧ ∀ p ∈ ps, SqT K G p.1 (p.2.map V.int)
  | _, [], h => by cases h; exact ⟨[], rfl, rfl, fun p hp => by cases hp⟩
  | _, w :: wss, h => by
    cases h with | cons a b =>
    obtain ⟨ps, e1, e2, e3⟩ := words_of b
    cases a with | @tup ad us _ e qa =>
    have := qa.ints
    subst this
    refine ⟨(ad, w) :: ps, by rw [e1]; rfl, by rw [e2]; rfl, fun p hp => ?_⟩
    cases hp with
    | head => exact e
    | tail _ hp => exact e3 p hp
theorem dq_words {G : Hp} {ps : List WordV} (h : ∀ p ∈ ps, SqT K G p.1 (p.2.map V.int)) : DqAll K G (ps.map fun p => V.ref p.1) ((ps.map (·.2)).map intsV) := by
  induction ps with
  | nil => exact .nil
  | cons p ps ih => exact .cons (.tup (h p (by simp)) (dqInts _)) (ih fun x hx => h x (List.mem_cons_of_mem _ hx))
theorem evf_sortLam {wss : List (List Int)} (h : EvD [(P, q)] K te ρ (.list (wss.map intsV))) (few : wss.length ≤ 100000) : EvF [(P, q)] K (tSortLam P q K te) ρ ((wss.mergeSort (dataLe false keyW)).map intsV) := fun H0 G H σ s t x Q k =>
  h H0 G H σ s t x _ fun v G1 H1 g1 q1 => by
    cases q1 with | lst e qa =>
    obtain ⟨ps, rfl, rfl, e3⟩ := words_of qa
    rw [List.length_map] at few
    refine ⟨(g1.tabs t) (P, q) (by simp), _, ps, rfl, SqL.of (g1.sub.le _ _ e), fun p hp => sqt_le g1.sub.le (e3 p hp), few, fun H2 l ex tab hl => ?_⟩
    have sub2 : Sub G1 H2 := ⟨fun a o ha => (ex _ _ (g1.sub.le _ _ ha)).resolve_right fun z => g1.sub.nt _ _ ha z.1, g1.sub.nt⟩
    have g2 : Gw [(P, q)] G1 H1 G1 H2 := ⟨ex, .refl _, sub2, fun _ _ z => .inl z, fun _ p hp => by
      rw [List.mem_singleton.mp hp]
      exact tab⟩
    have g3 := g1.trans g2
    have srt : (ps.map (·.2)).mergeSort (dataLe false keyW) = (ps.mergeSort (dataLe false fun p : WordV => keyW p.2)).map (·.2) := (List.map_mergeSort (f := fun p : WordV => p.2) (s := dataLe false keyW) (fun _ _ _ _ => rfl)).symm
    rw [srt] at k
    refine k l _ G1 _ (g3.trans (.newH g3.sub hl)) (g3.ex.none_of hl) (g3.sub.le.none_of hl) upd_same (dq_words fun p hp => e3 p ?_)
    exact (List.mergeSort_perm _ _).mem_iff.mp hp
end
end K37
namespace K37
open PySem PySem.Spec PyProof.Rows PySem.Spec L2
/-! ### xs[::-1] of a tuple -/
theorem places_back (n : Nat) : Builtin.Slice.slicePlaces ((n : Int) - 1) (-1) (-1) = n := by
  rw [Builtin.Slice.slicePlaces, if_neg (by decide)]
  have : - (-1 : Int) = 1 := rfl
  rw [this, Int.ediv_one]
  split <;> omega
theorem pick_back (xs : List Value) : ((List.range xs.length).filterMap fun (k : Nat) => xs.toArray[((xs.length : Int) - 1 + (k : Int) * -1).toNat]?) = xs.reverse := by
  have e : ∀ k ∈ List.range xs.length, xs.toArray[((xs.length : Int) - 1 + (k : Int) * -1).toNat]? = xs.reverse[k]? := fun k hk => by
    have hk := List.mem_range.mp hk
    have : ((xs.length : Int) - 1 + (k : Int) * -1).toNat = xs.length - 1 - k := by omega
    rw [this, List.getElem?_reverse hk]
    simp
  have cong : ∀ (l : List Nat) (f g : Nat → Option Value), (∀ k ∈ l, f k = g k) → l.filterMap f = l.filterMap g := fun l f g h => by
    induction l with
    | nil => rfl
    | cons x l ih =>
      rw [List.filterMap_cons, List.filterMap_cons, h x (by simp), ih fun k hk => h k (List.mem_cons_of_mem _ hk)]
  rw [cong _ _ _ e]
  have all : ∀ ys : List Value, ((List.range ys.length).filterMap fun k => ys[k]?) = ys := fun ys => by
    induction ys with
    | nil => rfl
    | cons y ys ih =>
      rw [List.length_cons, List.range_succ_eq_map, List.filterMap_cons_some (b := y) (by simp), List.filterMap_map]
      congr 1
  have := all xs.reverse
  rwa [List.length_reverse] at this
section
variable {prog : Program} {w : World} {s : Shared} {A : Around} {E : Value → Shared → Prop}
theorem getItem_back {t sl : Addr} {xs : List Value} {v1 v2 v3 : Value} {Q : Value → Shared → Prop} (it : s.heap.IsTuple t xs.toArray) (is_ : s.heap.IsSliceOf sl v1 v2 v3) (p1 : IsPart v1 none) (p2 : IsPart v2 none) (p3 : IsPart v3 (some (-1))) (small : xs.length ≤ sizeLine)
    (fin : Q (.ref s.heap.objs.size) { s with heap := s.heap.push { cls := .type "tuple", data := .seq xs.reverse.toArray } }) : wpAny (model prog w) A (getItem (.ref t) (.ref sl)) Q E s := by
  obtain ⟨os, o1, o2, o3⟩ := id is_
  have ty : s.TypeIs (.ref sl) "slice" := ⟨os, o1, o2⟩
  have room : sizeOk (.seq xs.reverse.toArray) := by
    show xs.reverse.toArray.size ≤ sizeLine
    simpa using small
  unfold getItem
  try (with_reducible refine wpAny_holding ?_)
  first | skip; refine wpAny_bind (wpAny_pure ?_) | skip
  refine wpAny_bind (wpAny_sequenceKey it.typeIs (by decide) ?_)
  refine wpAny_bind (wpAny_callSpecial?_slot (name := Str.ofString "__getitem__") it.typeIs PyProof.Rows.slot_tuple_getitem (wpAny_call_entry PyProof.Rows.slot_tuple_getitem it.typeIs entry_tuple_getitem ?_ (args_tuple_getitem _ _)))
  refine wpAny_bind (m := Builtin.Tuple.tupleItemsOf (.ref t)) (tupleItemsOf_ it (wpAny_bind (wpAny_typeOf ty ?_)))
  rw [if_pos (by decide)]
  refine wpAny_bind (m := Builtin.Slice.sliceApplied (.ref sl) (pure (xs.toArray.size : Int))) ?_
  unfold Builtin.Slice.sliceApplied
  unfold Builtin.Slice.sliceFields
  refine wpAny_bind (wpAny_bind (wpAny_field o1 o3 (x := v1) rfl (wpAny_bind (wpAny_field o1 o3 (x := v2) rfl (wpAny_bind (wpAny_field o1 o3 (x := v3) rfl (wpAny_pure ?_)))))))
  refine wpAny_bind (HT.slicePart_ p3 ?_)
  show wpAny _ _ (if ((-1 : Int) == 0) = true then _ else _) _ _ s
  rw [if_neg (by decide)]
  refine wpAny_bind (HT.slicePart_ p1 (wpAny_bind (HT.slicePart_ p2 (wpAny_bind (wpAny_pure ?_)))))
  show wpAny _ _ (pure ((xs.toArray.size : Int) - 1, (-1 : Int), Builtin.Slice.slicePlaces ((xs.toArray.size : Int) - 1) (-1) (-1))) _ _ s
  rw [places_back, List.size_toArray]
  refine wpAny_pure ?_
  show wpAny _ _ (if (((xs.length : Int) - 1 == 0) && ((-1 : Int) == 1) && (xs.length == xs.toArray.size)) = true then _ else _) _ _ s
  have no : ¬ ((((xs.length : Int) - 1 == 0) && ((-1 : Int) == 1) && (xs.length == xs.toArray.size)) = true) := by simp
  rw [if_neg no, pick_back]
  first
    | exact wpAny_bind (m := Builtin.Tuple.tupleExact _) (wpAny_newObj_type (wpAny_pure ⟨_, rfl, wpAny_pure fin⟩) room)
    | exact wpAny_bind (m := Builtin.Tuple.tupleExact _) (wpAny_newObj_type (wpAny_bind (wpAny_pure (wpAny_pure ⟨_, rfl, wpAny_pure fin⟩))) room)
    | exact wpAny_bind (wpAny_bind (m := Builtin.Tuple.tupleExact _) (wpAny_newObj_type (wpAny_pure (wpAny_pure ⟨_, rfl, wpAny_pure fin⟩)) room))
    | exact wpAny_bind (wpAny_bind (m := Builtin.Tuple.tupleExact _) (wpAny_newObj_type (wpAny_pure ⟨_, rfl, wpAny_pure fin⟩) room))
end
def tRevT (K : PySem.W.Frag) (te : TE) : TE := fun σ H Q => te σ H fun x H1 => ∃ a xs, x = .ref a ∧ SqT K H1 a xs ∧ ∀ p, H1 p = none → Q (.ref p) (upd H1 p (.tup xs.reverse))
theorem pe_revT (K : PySem.W.Frag) {X : Cx} (hK : X.K = K) {e : Expr} {te : TE} {k : Nat} {p1 p2 p3 pos : Pos} (he : PE X e te) : PE X (.Subscript e (.Slice none none (some (.UnaryOp .USub (.Constant (.int 1) k p1) p2)) p3) pos) (tRevT K te) := by
  subst hK
  constructor
  intro pins s σ H Q I h
  refine Subscript_ (thn (he.run pins s σ H _ I h) ?_)
  rintro v s1 ⟨x, H1, I1, r1, a, xs, rfl, q1, more⟩
  obtain rfl : Value.ref a = v := Eq.symm r1
  have step : PO X (some (.UnaryOp .USub (.Constant (.int 1) k p1) p2)) (tPart (tUn (rU fun i => .int (-i)) (tC (.int 1)))) := po_some (pe_un un_neg pe_int)
  refine wpAny_Slice (thn (po_none.run pins s1 σ H1 (fun o H2 => o = none ∧ H2 = H1) I1 ⟨rfl, rfl⟩) ?_)
  rintro w1 s2 ⟨l, _, I2, d1, rfl, rfl⟩
  refine thn (po_none.run pins s2 σ _ (fun o H3 => o = none ∧ H3 = _) I2 ⟨rfl, rfl⟩) ?_
  rintro w2 s3 ⟨u, _, I3, d2, rfl, rfl⟩
  refine thn (step.run pins s3 σ _ (fun o H4 => o = some (-1) ∧ H4 = _) I3 ⟨1, rfl, -1, rfl, rfl, rfl⟩) ?_
  rintro w3 s4 ⟨o, _, I4, d3, rfl, rfl⟩
  have I5 : Inv X pins σ _ { s4 with heap := s4.heap.push { cls := .type "slice", data := .fields #[w1, w2, w3] } } := I4.kept (t' := s4.toks) fun b ob q => Heap.get?_push_of_some _ q
  obtain ⟨its, rel, it, small⟩ := I5.tuple q1
  refine tail_any (s := { s4 with heap := s4.heap.push { cls := .type "slice", data := .fields #[w1, w2, w3] } }) (ops := [.ref a, .ref s4.heap.objs.size]) it.typeIs PyProof.Rows.slot_tuple_getitem.lookup (getItem_back it (Heap.IsSliceOf.new _ w1 w2 w3) d1 d2 d3 (by rw [← rel.length]; exact small) ?_) (by with_unfolding_all rfl)
  refine ⟨.ref _, _, I5.laid (t' := s4.toks) (o := .tup xs.reverse) (fun b ob q => Heap.get?_push_of_some _ q) (Nat.le_refl _) ?_, rfl, more _ (I5.hok.fresh (Nat.le_refl _))⟩
  exact ⟨by simpa using small, _, rel.reverse, _, Heap.get?_push_size _ rfl, rfl, _, rfl⟩
theorem pe_orTK (K : PySem.W.Frag) {X : Cx} (hK : X.K = K) {a b : Expr} {ta tb : TE} {pos : Pos} (ha : PE X a ta) (hb : PE X (.BoolOp .Or [b] pos) tb) : PE X (.BoolOp .Or [a, b] pos) (tOrT K ta tb) := hK ▸ pe_orT ha hb
section
variable {T : Tb} {K : PySem.W.Frag} {ρ : List Sl} {ta : TA} {te tb : TE} {ds es : List PyData} {a b c d : PyData}
theorem evd_revT (h : EvD T K te ρ (.tuple ds)) : EvD T K (tRevT K te) ρ (.tuple ds.reverse) := fun H0 G H σ s t x Q q =>
  h H0 G H σ s t x _ fun v G1 H1 g q1 => by
    cases q1 with | tup e qa =>
    exact ⟨_, _, rfl, sqt_le g.sub.le e, fun p hp => q _ _ _ (g.trans (.new g.sub hp fun z => z)) (.tup (SqT.of upd_same) (qa.reverse.le (Le.upd (g.sub.le.none_of hp))))⟩
/-! ### for .. in reversed(range(n)) -/
def rngB (n : Nat) : List PyData := (List.range n).map fun i => .int ((n : Int) - 1 - (i : Nat))
theorem itd_revR {n : Int} (h : EvD T K te ρ (.int n)) (h1 : -1000000 ≤ n) (h2 : n ≤ 1000000) : ItD T K (iRevR (tRg1 te)) ρ (rngB n.toNat) := fun H0 G H σ s t x R r =>
  h H0 G H σ s t x _ fun v G1 H1 g q1 => by
    cases q1
    refine ⟨n, rfl, by omega, by omega, by omega, by omega, r _ G1 H1 g ⟨fun i _ _ _ _ hi => ?_, fun _ _ _ _ => ?_, fun i G2 H2 x H' d l s y e => ?_⟩⟩
    · simp [rngB] at hi
      show i < (n - 0).toNat
      omega
    · simp [rngB]
      exact Nat.le_refl _
    · obtain ⟨rfl, rfl⟩ := y
      unfold rngB at e
      rw [List.getElem?_map] at e
      by_cases hi : i < n.toNat
      · rw [List.getElem?_range hi] at e
        cases e
        refine ⟨G2, .refl s, ?_⟩
        have : 0 + (((n - 0).toNat : Nat) : Int) - 1 + (i : Int) * -1 = ((n.toNat : Nat) : Int) - 1 - (i : Nat) := by
          have : n - 0 = n := by omega
          rw [this]; omega
        rw [this]
        exact .int _
      · rw [List.getElem?_eq_none (by simpa using hi)] at e
        cases e
/-! ### a, b, c = x, y, z -/
theorem std_par3 {i j l : Nat} {d1 d2 d3 : PyData} (h : EvDs T K ta ρ [d1, d2, d3]) : StD T K (tPar3 i j l ta) ρ (.nx (((ρ.set i (.dat d1)).set j (.dat d2)).set l (.dat d3))) := fun G0 H0 σ G H D tb g x p =>
  h H0 G H σ g.sub (g.tabs tb) x _ fun vs G1 H1 g1 qa => by
    cases qa with | cons q1 qa =>
    cases qa with | cons q2 qa =>
    cases qa with | cons q3 qa =>
    cases qa
    exact ⟨_, _, _, rfl, p _ G1 H1 (g.trans g1) g1.le ((((x.gw g1).setDat i q1).setDat j q2).setDat l q3)⟩
/-! ### or, by truth -/
theorem evd_orL {k : Bool} (ha : EvD T K te ρ (.list ds)) (hk : k = !ds.isEmpty) (hb : k = false → EvD T K tb ρ c) (hc : k = true → c = .list ds) : EvD T K (tOrT K te tb) ρ c := fun H0 G H σ s t x Q q =>
  ha H0 G H σ s t x _ fun v G1 H1 g1 q1 => by
    cases q1 with | @lst a vs _ e qa =>
    have hv : vs.isEmpty = ds.isEmpty := by
      have := qa.length
      cases vs <;> cases ds <;> simp_all
    refine ⟨k, .inl ⟨vs, SqL.of (g1.sub.le _ _ e), by rw [hk, ← hv]⟩, ?_⟩
    cases k with
    | true =>
      rw [if_pos rfl]
      rw [hc rfl] at q
      exact q _ _ _ g1 (.lst e qa)
    | false =>
      rw [if_neg (by simp)]
      exact hb rfl H0 G1 H1 σ g1.sub (g1.tabs t) (x.gw g1) Q fun v G2 H2 g2 q2 => q _ _ _ (g1.trans g2) q2
end
end K37
namespace K37
open PySem PySem.Spec PyProof.Rows PySem.Spec L2
/-! ### a call that is shown a list of one's own -/
def flat : PyData → Bool
  | .none => true
  | .bool _ => true
  | .int _ => true
  | _ => false
theorem Dq.flat {K : PySem.W.Frag} {G G' : Hp} {v : V} {d : PyData} (q : Dq K G v d) (h : flat d = true) : Dq K G' v d := by
  cases q with
  | non => exact .non
  | bl b => exact .bl b
  | int i => exact .int i
  | lst e a => cases h
  | tup e a => cases h
section
variable {T : Tb} {K : PySem.W.Frag} {ρ : List Sl} {ta : TA} {te : TE} {ds es : List PyData} {a b c d : PyData}
/-- seen as data for a while, then one's own again -/
theorem Gw.lend {G H G2 H2 : Hp} {p : Addr} {vs : List V} (gp : G p = none) (s : Sub G H) (g : Gw T (upd G p (.lst vs)) H G2 H2) : Gw T G H (fun a => if a = p then none else G2 a) H2 := by
  have pt : ∀ {a : Addr} {o : HO}, (if a = p then none else G2 a) = some o → a ≠ p ∧ G2 a = some o := fun {a o} e => by
    by_cases h : a = p
    · rw [if_pos h] at e; cases e
    · rw [if_neg h] at e; exact ⟨h, e⟩
  refine ⟨g.ex, fun a o e => ?_, ⟨fun a o e => g.sub.le a o (pt e).2, fun a o e => g.sub.nt a o (pt e).2⟩, fun a o e => ?_, g.tabs⟩
  · have n : a ≠ p := ne_of_none e gp
    show (if a = p then none else G2 a) = some o
    rw [if_neg n]
    exact g.le a o (by rw [upd_ne n]; exact e)
  · rcases g.fresh a o (pt e).2 with h | h
    · rw [upd_ne (pt e).1] at h; exact .inl h
    · exact .inr h
theorem evd_callO {i : Nat} {xs : List PyData} {f : List PyData → PyData → Prop} {E : XK} (e : ρ[i]? = some (.own xs)) (h : EvDs T K ta ρ ds) (hf : f (.list xs :: ds) c) (hc : flat c = true) : EvD T K (tCall (spF T K f) [] E (tCons (tVar i) ta)) ρ c := fun H0 G H σ s t x Q q => by
  obtain ⟨p, vs, e1, h0, gg, hl, qa⟩ := x.own e
  refine ⟨_, e1, h H0 G H σ s t x _ fun us G1 H1 g1 q1 => ?_⟩
  show spF T K f ((V.ref p :: us) ++ []) H1 Q E
  rw [List.append_nil]
  have gp := g1.out hl gg
  have hl1 := g1.keep hl fun z => z
  have l := Le.upd (o := HO.lst vs) gp
  refine ⟨upd G1 p (.lst vs), _, c, ⟨fun a o ea => ?_, fun a o ea => ?_⟩, g1.tabs t, .cons (.lst upd_same ((qa.le g1.le).le l)) (q1.le l), hf, fun v G2 H2 g2 q2 => ?_⟩
  · by_cases z : a = p
    · subst z; rw [upd_same] at ea; cases ea; exact hl1
    · rw [upd_ne z] at ea; exact g1.sub.le a o ea
  · by_cases z : a = p
    · subst z; rw [upd_same] at ea; cases ea; exact fun z => z
    · rw [upd_ne z] at ea; exact g1.sub.nt a o ea
  · exact q v _ H2 (g1.trans (Gw.lend gp g1.sub g2)) (q2.flat hc)
/-- f(xs), xs a list of one's own: handed over for good -/
theorem at_nat {α : Type} {xs : List α} {k : Nat} {c : α} (h : xs[k]? = some c) : atI xs (k : Int) = some c := by
  have hk := (List.getElem?_eq_some_iff.mp h).1
  unfold atI ixN
  rw [if_pos (by omega)]; rw [if_pos (by omega)]
  simpa using h
theorem at_last {α : Type} {xs : List α} {c : α} (h : xs.getLast? = some c) : atI xs (-1) = some c := by
  have hk : xs ≠ [] := fun z => by subst z; cases h
  have hl := List.length_pos_iff.mpr hk
  rw [List.getLast?_eq_getElem?] at h
  unfold atI ixN
  rw [if_neg (by omega), if_pos (by omega)]
  have h5 : (-1 + (xs.length : Int)).toNat = xs.length - 1 := by omega
  show xs[(-1 + (xs.length : Int)).toNat]? = some c
  rw [h5]; exact h
/-! ### while, turn by turn -/
inductive Wh (T : Tb) (K : PySem.W.Frag) (tt : TT) (tb : TS) : List Sl → List Sl → Prop
  | stop {ρ : List Sl} : TeD T K tt ρ false → Wh T K tt tb ρ ρ
  | more {ρ ρ1 ρ2 : List Sl} : TeD T K tt ρ true → StD T K tb ρ (.nx ρ1) → Wh T K tt tb ρ1 ρ2 → Wh T K tt tb ρ ρ2
theorem Wh.turns {tt : TT} {tb : TS} {ρ ρ2 : List Sl} (h : Wh T K tt tb ρ ρ2) : ∃ (n : Nat) (ρs : Nat → List Sl), ρs 0 = ρ ∧ ρs n = ρ2 ∧ (∀ i, i < n → TeD T K tt (ρs i) true ∧ StD T K tb (ρs i) (.nx (ρs (i + 1)))) ∧ TeD T K tt (ρs n) false := by
  induction h with
  | stop h => exact ⟨0, fun _ => _, rfl, rfl, fun i hi => absurd hi (Nat.not_lt_zero i), h⟩
  | more h1 h2 _ ih =>
    obtain ⟨n, ρs, e0, en, hs, hd⟩ := ih
    refine ⟨n + 1, fun i => match i with | 0 => _ | i + 1 => ρs i, rfl, en, fun i hi => ?_, hd⟩
    cases i with
    | zero => exact ⟨h1, by show StD T K _ _ (.nx (ρs 0)); rw [e0]; exact h2⟩
    | succ i => exact hs i (by omega)
theorem std_wh {tt : TT} {tb : TS} {ρ2 : List Sl} (h : Wh T K tt tb ρ ρ2) : StD T K (tWhile tt tb) ρ (.nx ρ2) := by
  obtain ⟨n, ρs, e0, en, hs, hd⟩ := h.turns
  rw [← e0, ← en]
  exact std_while n ρs hs hd
/-- a, b = [..], e: a one's own -/
theorem std_parF {i j : Nat} {tb : TE} {d2 : PyData} (h1 : EvF T K te ρ ds) (h2 : EvD T K tb ρ d2) (hij : i ≠ j) : StD T K (tPar i j (tCons te (tCons tb tNil))) ρ (.nx ((ρ.set i (.own ds)).set j (.dat d2))) := fun G0 H0 σ G H D tbs g x p => by
  refine h1 H0 G H σ g.sub (g.tabs tbs) x _ fun q vs G1 H1 g1 hp gp hl qa => ?_
  refine h2 H0 G1 H1 σ g1.sub (g1.tabs (g.tabs tbs)) (x.gw g1) _ fun v G2 H2 g2 q2 => ⟨_, _, rfl, ?_⟩
  have g12 := g1.trans g2
  refine p _ G2 H2 (g.trans g12) g12.le (((x.gw g12).setOwn i (g.ex.none_of hp) (g2.out hl gp) (g2.keep hl fun z => z) (qa.le g2.le) fun k dk hk ek ez => ?_).setDat j q2)
  obtain ⟨p', vs', e1, h0, gg, hp', _⟩ := x.own ek
  rw [ez] at e1
  have : q = p' := by injection e1 with e1; injection e1 with e1; injection e1
  subst this
  rw [hp] at hp'; cases hp'
end
end K37
namespace K37
open PySem PySem.Spec PyProof.Rows PySem.Spec L2
/-! ### a dict of one pair under a tuple of two whole numbers -/
theorem room1 {k : Nat} {A : Around} (r : Room k A) : A.units + 1 < cLine := by have := r.units; omega
def tDict1 (tk tv : TE) : TE := fun σ H Q => ∀ p, H p = none → tk σ (upd H p (.dT [])) fun x H1 => tv σ H1 fun y H2 => ∃ (b : Addr) (i j : Int), x = .ref b ∧ H2 b = some (.tup [.int i, .int j]) ∧ H2 p = some (.dT []) ∧ Q (.ref p) (upd H2 p (.dT [([.inl i, .inl j], y)]))
theorem pe_disp1 {X : Cx} {k v : Expr} {tk tv : TE} {pos : Pos} (hu : X.A.units + 1 < cLine) (hk : PE X k tk) (hv : PE X v tv) : PE X (.Dict [some k] [v] pos) (tDict1 tk tv) := by
  constructor
  intro pins s σ H Q I h
  have fresh := I.hok.fresh (Nat.le_refl s.heap.objs.size)
  have I0 : Inv X pins σ (upd H s.heap.objs.size (.dT [])) { s with heap := s.heap.push { cls := .type "dict", data := .dict #[] } } := I.laid (t' := s.toks) (fun _ _ q => Heap.get?_push_of_some _ q) (Nat.le_refl _) (dt_empty s.heap I.big)
  have one : (pairTrees [some k] [v] X.env pos).length = 1 := pairTrees_length _ _ _ _ rfl rfl
  rw [arm_eval_Dict, zip_pairTrees [some k] [v] X.env pos rfl rfl, dictDisplay_pairs _ (fun z => by rw [z] at one; cases one) (by omega)]
  refine wpAny_bind (wpAny_standAt (wpAny_bind (wpAny_subDictH (knd := tupleKind (mixKind X.prog X.w)) (Q := fun d s' => wpAny (model X.prog X.w) X.A (pure (Value.ref d)) (EP X pins σ Q) X.xe s') (show (tupleKind (mixKind X.prog X.w)).room X.A from Nat.lt_of_succ_lt hu) (by omega) ?_)))
  refine pairTrees_cons_walk (thn (hk.run pins _ σ _ _ I0 (h _ fresh)) ?_)
  rintro u s1 ⟨x, H1, I1, rx, q1⟩
  refine thn (hv.run pins s1 σ H1 _ I1 q1) ?_
  rintro u2 s2 ⟨y, H2, I2, ry, b, i, j, rfl, eb, ep, q2⟩
  obtain rfl : u = Value.ref b := rx
  refine pairTrees_nil_walk ?_
  obtain ⟨_, nosys, xs, rel, dd⟩ := dt_of I2.hok ep
  cases rel
  refine ⟨[([.inl i, .inl j], b, u2)], ⟨rfl, rfl, key_of (ks := [.inl i, .inl j]) I2.hok eb, trivial⟩, dd, fun g tk dg sb => wpAny_pure ?_⟩
  obtain ⟨o, es, n, d1, d2, d3, d4, _, d5⟩ := dg
  refine ⟨.ref s.heap.objs.size, _, d_write (t' := tk) (ob := .dT [([.inl i, .inl j], y)]) I2 (by rw [ep]; exact True.intro) sb ⟨o, d1⟩ ⟨by show 1 ≤ sizeLine; decide, nosys, _, .cons ⟨rfl, ?_, ry⟩ .nil, o, es, n, d1, d2, d3, d4, d5⟩, rfl, q2⟩
  show upd H2 s.heap.objs.size _ b = some (.tup [.int i, .int j])
  rw [upd_ne (ne_of eb ep fun z => nomatch z)]
  exact eb
section
variable {T : Tb} {K : PySem.W.Frag} {ρ : List Sl}
theorem evd_dget {i i2 i3 : Nat} {a b k j : Int} {d dflt : PyData} (e : ρ[i]? = some (.dic a b d)) (e2 : ρ[i2]? = some (.dat (.int k))) (e3 : ρ[i3]? = some (.dat (.int j))) : EvD T K (tDGet2 (tVar i) (tTup (tCons (tVar i2) (tCons (tVar i3) tNil))) (tCst K dflt)) ρ (if a = k ∧ b = j then d else dflt) := fun H0 G H σ s t x Q q => by
  obtain ⟨o, o1, ad, v, rfl, ha, qv⟩ := x.ok i _ e
  obtain ⟨u2, o2, q2⟩ := x.dat e2
  obtain ⟨u3, o3, q3⟩ := x.dat e3
  cases q2; cases q3
  refine ⟨_, o1, ad, rfl, .inr ⟨_, .inl ha⟩, _, o2, _, o3, by show 2 ≤ sizeLine; decide, fun p hp => ?_⟩
  intro z hz
  have n : ad ≠ p := ne_of_none ha hp
  have ha2 : upd H p (.tup [.int k, .int j]) ad = some (.dT [([.inl a, .inl b], v)]) := by rw [upd_ne n]; exact ha
  have hp2 : upd H p (.tup [.int k, .int j]) p = some (.tup (([.inl k, .inl j] : List Key).map kV)) := upd_same
  refine ⟨_, DGet.t ha2 hp2, ?_⟩
  have g := Gw.newH (T := T) (o := .tup [.int k, .int j]) s hp
  have hval : valV [(([.inl a, .inl b] : List Key), v)] [.inl k, .inl j] = if a = k ∧ b = j then some v else none := by
    unfold valV
    by_cases h : a = k ∧ b = j
    · rw [if_pos h, h.1, h.2]; simp
    · rw [if_neg h]
      simp only [List.find?_cons, List.find?_nil]
      have : decide (([.inl a, .inl b] : List Key) = [.inl k, .inl j]) = false := decide_eq_false fun z => h (by
        injection z with z1 z2
        injection z2 with z2 _
        injection z1 with z1
        injection z2 with z2
        exact ⟨z1, z2⟩)
      rw [this]; rfl
  rw [hval]
  by_cases h : a = k ∧ b = j
  · rw [if_pos h] at q ⊢
    exact q _ _ _ g qv
  · rw [if_neg h] at q ⊢
    exact q _ _ _ g (hz G)
def matD (i j : Int) (d z : PyData) : PyData := .tuple [.tuple [if i = 0 ∧ j = 0 then d else z, if i = 0 ∧ j = 1 then d else z], .tuple [if i = 1 ∧ j = 0 then d else z, if i = 1 ∧ j = 1 then d else z]]
def spMat (T : Tb) (K : PySem.W.Frag) (z : PyData) : Sp := fun vs H Q _ => ∃ G a v i j d, Sub G H ∧ LamX.Tabs T H ∧ vs = [.int 2, .ref a] ∧ H a = some (.dT [([.inl i, .inl j], v)]) ∧ Dq K G v d ∧ ∀ u G' H', Gw T G H G' H' → Dq K G' u (matD i j d z) → Q u H'
theorem evd_callMat {i j : Int} {d z : PyData} {E : XK} : EvD T K (tCall (spMat T K z) [] E (tCons (tC (.int 2)) (tCons (tDict1 (tTup (tCons (tC (.int i)) (tCons (tC (.int j)) tNil))) (tCst K d)) tNil))) ρ (matD i j d z) := fun H0 G H σ s t x Q q => by
  intro p hp
  refine ⟨by show 2 ≤ sizeLine; decide, fun b hb => ?_⟩
  intro v hv
  have nb : p ≠ b := fun z => by subst z; rw [upd_same] at hb; cases hb
  have hb0 : H b = none := by rw [upd_ne nb.symm] at hb; exact hb
  refine ⟨b, i, j, rfl, upd_same, by rw [upd_ne nb, upd_same], ?_⟩
  show spMat T K z ([.int 2, .ref p] ++ []) _ Q E
  have g1 : Gw T G H G (upd H p (.dT [([.inl i, .inl j], v)])) := .newH s hp
  have g2 : Gw T G H G (upd (upd H p (.dT [([.inl i, .inl j], v)])) b (.tup [.int i, .int j])) := g1.trans (.newH g1.sub (by rw [upd_ne nb.symm]; exact hb0))
  have e : upd (upd (upd H p (.dT [])) b (.tup [.int i, .int j])) p (.dT [([.inl i, .inl j], v)]) = upd (upd H p (.dT [([.inl i, .inl j], v)])) b (.tup [.int i, .int j]) := by
    funext a
    by_cases h1 : a = p
    · subst h1; rw [upd_same, upd_ne nb, upd_same]
    · rw [upd_ne h1]
      by_cases h2 : a = b
      · subst h2; rw [upd_same, upd_same]
      · rw [upd_ne h2, upd_ne h2, upd_ne h1, upd_ne h1]
  rw [e]
  exact ⟨G, p, v, i, j, d, g2.sub, g2.tabs t, rfl, by rw [upd_ne nb, upd_same], hv G, fun u G' H' g' q' => q u G' H' (g2.trans g') q'⟩
end
/-- a def with a promise of its own kind -/
theorem df_sp {P : Program} {w : World} {K : PySem.W.Frag} {mg : Str → Option Value} {base : Heap} {T : Tb} {fn : List He.DefD} {bl : List Str} {cons : List (Str × PyData)} {ld : He.DefD} {lq : Str} (C : Ct P w K mg base T fn bl cons ld lq) {i : Nat} {x : Str} {pr : Arguments} {bd : List Stmt} {sc : Scope}
    {N ps : List Str} {k : Nat} {sp : Sp} (h : fn[i]? = some ⟨(x, none), x, x, pr, bd, sc, [], []⟩) (S : FnScope N ps sc)
    (hb : ∀ (kV doc pm : Value) (an : Option Addr) (cdv ct : Value) (us : List Value), us.length = ps.length → bindArgs (PySem.W.fnOf x x pr bd sc .none kV doc pm an cdv ct) ⟨us, []⟩ = pure (ps.zip us))
    (hlen : ∀ vs H Q E, sp vs H Q E → vs.length = ps.length)
    (body : ∀ (cdv : Value) (A : Around) (outer : List Env) (s : Shared) (H : Hp) (E : XK) (fa : Addr), Room k (A.deeper (PyProof.Rows.envOfC x sc s.heap.objs.size fa cdv)) → ∃ t, PSs (cxOf CX0 P w K mg base N x sc fa cdv A outer s H E).nox bd t ∧ ∀ vs H Q E, sp vs H Q E → t { nx := fun _ H' => Q .non H', rt := Q } (L2.start N vs) H) :
    Df P w K mg base x (k + 1) ps sp := by
  obtain ⟨fa, fd, F, hm⟩ := C.fnat i _ h
  refine ⟨fa, fd, F.ok S hlen (fun cdv A outer s H vs Q E hr hsp => ?_), hm, F.kp, F.bindsN hb⟩
  obtain ⟨t, ht, hs⟩ := body cdv A outer s H E fa hr
  exact ⟨t, ht.nox, hs vs H Q E hsp⟩
end K37
namespace K37
open PySem PySem.Spec PyProof.Rows PySem.Spec L2
/-! ### a for that may hand back -/
def outO (ρ : List Sl) : Option PyData → Out
  | none => .nx ρ
  | some r => .rt r
theorem first_some {β : Type} (o : Nat → Option β) : ∀ n, (∃ k, k < n ∧ (List.range n).findSome? o = o k ∧ (o k).isSome = true ∧ ∀ j, j < k → o j = none) ∨ ((List.range n).findSome? o = none ∧ ∀ j, j < n → o j = none)
  | 0 => .inr ⟨rfl, fun j hj => absurd hj (Nat.not_lt_zero j)⟩
  | n + 1 => by
    rw [List.range_succ, List.findSome?_append]
    rcases first_some o n with ⟨k, h1, h2, h3, h4⟩ | ⟨h1, h2⟩
    · refine .inl ⟨k, by omega, ?_, h3, h4⟩
      rw [h2]
      cases e : o k with
      | none => rw [e] at h3; cases h3
      | some x => rfl
    · rw [h1]
      cases e : o n with
      | none =>
        refine .inr ⟨by simp [e], fun j hj => ?_⟩
        by_cases hjn : j = n
        · rw [hjn]; exact e
        · exact h2 j (by omega)
      | some x => exact .inl ⟨n, by omega, by simp [e], by rw [e]; rfl, h2⟩
section
variable {T : Tb} {K : PySem.W.Frag} {ρ : List Sl} {ds : List PyData}
theorem std_forO {wi : TI} {g : TG} {tb : TS} {js : List Nat} (o : Nat → Option PyData) (hi : ItD T K wi ρ ds) (hs : ∀ (i : Nat) d, ds[i]? = some d → ∃ ρ1, TgD K g js d ρ ρ1 ∧ StD T K tb ρ1 (outO ρ (o i))) : StD T K (tFor wi g tb) ρ (outO ρ ((List.range ds.length).findSome? o)) := by
  rcases first_some o ds.length with ⟨k, h1, h2, h3, h4⟩ | ⟨h1, h2⟩
  · rw [h2]
    obtain ⟨r, hr⟩ := Option.isSome_iff_exists.mp h3
    rw [hr]
    refine std_forR (js := js) (ρs := fun _ => ρ) k h1 hi (fun i d hik hd => ?_) fun d hd => ?_
    · obtain ⟨ρ1, a, b⟩ := hs i d hd
      rw [h4 i hik] at b
      exact ⟨ρ1, a, b⟩
    · obtain ⟨ρ1, a, b⟩ := hs k d hd
      rw [hr] at b
      exact ⟨ρ1, a, b⟩
  · rw [h1]
    refine std_for (js := js) (ρs := fun _ => ρ) hi fun i d hd => ?_
    obtain ⟨ρ1, a, b⟩ := hs i d hd
    rw [h2 i (List.getElem?_eq_some_iff.mp hd).1] at b
    exact ⟨ρ1, a, b⟩
/-- .. and on it goes -/
theorem std_seqO {t u : TS} {r : Option PyData} {d : PyData} (h1 : StD T K t ρ (outO ρ r)) (h2 : r = none → StD T K u ρ (.rt d)) (h3 : ∀ x, r = some x → x = d) : StD T K (tSeq t u) ρ (.rt d) := by
  cases r with
  | none => exact std_seq h1 (h2 rfl)
  | some x =>
    rw [← h3 x rfl]
    exact std_seqR h1
theorem std_outW {t : TS} {ρ2 ρ3 : List Sl} {o : Option PyData} (h : StD T K t ρ (outO ρ2 o)) (hl : ρ3.length = ρ2.length) (hw : ∀ (i : Nat) (s : Sl), ρ3[i]? = some s → s = .any ∨ ρ2[i]? = some s) : StD T K t ρ (outO ρ3 o) := by
  cases o with
  | none => exact std_weakN h hl hw
  | some r => exact h
end
end K37
namespace K37
open PySem PySem.Spec L2
/-! ### the rules, the written part told by its own name (a comprehension's block has a context of its own) -/
section
variable {X : Cx} {T : Tb} {ρ : List Sl} {te : TE} {ds : List PyData}
def rInX (K : PySem.W.Frag) : R2 := fun x y H Q => ∃ d, Dp K H x d ∧ Dp K H y (.tuple []) ∧ d.canLay0 = true ∧ Q (.bl false) H
theorem op_inX (hu : X.A.units + 64 < cLine) : OpR X (compareOp .In) (rInX X.K) := by
  intro pins s σ H x y v u Q I; intro rx ry h
  obtain ⟨d, hd, he, sd, q⟩ := h
  have ⟨as, r1⟩ := Dp.reads I d x v hd rx
  obtain ⟨bs, r2⟩ := Dp.reads I _ y u he ry
  refine SeqAt.in_tuple_reads r2 r1 rfl sd ?_ ⟨.bl false, H, I, rfl, q⟩
  have : min (PyData.depthAll []) d.depth = 0 := by rw [PyData.depthAll]; omega
  omega
variable (K : PySem.W.Frag)
theorem op_plusK (h : X.K = K) : OpR X (binaryOp .Add) (rPlus K) := h ▸ op_plus
theorem op_timesK (h : X.K = K) : OpR X (binaryOp .Mult) (rTimes K) := h ▸ op_times
theorem op_eqK (h : X.K = K) (hu : X.A.units + 64 < cLine) : OpR X (compareOp .Eq) (rEqD K) := h ▸ op_eqD hu
theorem op_neK (h : X.K = K) (hu : X.A.units + 64 < cLine) : OpR X (compareOp .NotEq) (rNeD K) := h ▸ op_neD hu
theorem op_inK (h : X.K = K) (hu : X.A.units + 64 < cLine) : OpR X (compareOp .In) (rInX K) := h ▸ op_inX hu
theorem ix_seqK (h : X.K = K) : IxR X (rIx K) := h ▸ ix_seq
theorem sl_seqK (h : X.K = K) : SlR X (rSl K) := h ▸ sl_seq
abbrev rLenS (K : PySem.W.Frag) : List V → Hp → VK → Prop := fun ws H Q => ∃ p ys, ws = [V.ref p] ∧ (SqL K H p ys ∨ SqT K H p ys) ∧ Q (.int ys.length) H
abbrev rTupO (K : PySem.W.Frag) : List V → Hp → VK → Prop := fun ws H Q => ∃ p ys, ws = [V.ref p] ∧ ((SqL K H p ys ∧ ∀ l, H l = none → Q (.ref l) (upd H l (.tup ys))) ∨ (SqT K H p ys ∧ Q (.ref p) H))
abbrev rLstO (K : PySem.W.Frag) : List V → Hp → VK → Prop := fun ws H Q => ∃ p ys, ws = [V.ref p] ∧ (SqL K H p ys ∨ SqT K H p ys) ∧ ∀ l, H l = none → Q (.ref l) (upd H l (.lst ys))
theorem call_lenK (h : X.K = K) : CallR X (.builtin "len") (rLenS K) := h ▸ call_len_seq
theorem call_tupleK (h : X.K = K) : CallR X (.type "tuple") (rTupO K) := h ▸ call_tuple_of
theorem call_listK (h : X.K = K) : CallR X (.type "list") (rLstO K) := h ▸ call_list_of
theorem cr_allK (h : X.K = K) (hc : X.calm = true) : CallR X (.builtin "all") (rAll K) := h ▸ cr_all hc
theorem cr_anyK (h : X.K = K) (hc : X.calm = true) : CallR X (.builtin "any") (rAny K) := h ▸ cr_any hc
theorem call_isiK1 (h : X.K = K) : CallR X (.builtin "isinstance") (rIsi K) := h ▸ call_isi
theorem call_isiK2 (h : X.K = K) : CallR X (.builtin "isinstance") (rIsiT K) := h ▸ call_isiT
theorem pg_tupK (h : X.K = K) {es : List Expr} {k : Nat} {t : TGs} {n : Nat} {pos : Pos} (hc : X.calm = true) (ht : PGs X es t)
    (hn : (assignEach es X.env).length = n := by rfl) (hst : (assignEach es X.env).findIdx? (·.1) = none := by rfl) : PG X (.Tuple es k pos) (gTup K n t) := h ▸ pg_tup hc ht hn hst
theorem pi_seqK (h : X.K = K) {tg l : Expr} {tl : TE} (hl : PE X l tl) : PI X tg l (iSeq K tl) := h ▸ pi_seq hl
theorem pi_revK (h : X.K = K) {tg e : Expr} {te : TE} {p pos : Pos} (hg : Gl X "reversed") (hm : X.mg "reversed" = none) (he : PE X e te) (hs : starEach [e] X.env = (false, eval e X.env) :: starEach [] X.env := by rfl) :
    PI X tg (.Call (.Name "reversed" p) [e] [] pos) (RT.iRevA K te) := h ▸ RT.pi_revA hg hm he hs
theorem pe_cstK (h : X.K = K) {x : Str} {d : PyData} {pos : Pos} (hg : Gl X x) (c : Cst X.K X.mg x d) (hd : (x == ("__debug__" : Str)) = false := by decide) : PE X (.Name x pos) (tCst K d) := h ▸ pe_cst hg c hd
theorem pe_bm0K (h : X.K = K) {o : Expr} {to : TE} {name : Str} {apos cpos : Pos} {T id : String} {r : V → List V → Hp → VK → Prop} (pa : PlainAttrs T) (slot : Slot T name id) (hty : typeOf (.builtin id) = pure (.type "method_descriptor")) (hm : MtR X id r) (ho : PE X o to) (hbase : attributeBase o name X.env (eval o X.env) = eval o X.env := by rfl) (hline : (apos.endLine == cpos.line) = true := by rfl) : PE X (.Call (.Attribute o name apos) [] [] cpos) (tBM0 K T r to) := h ▸ pe_bm0 pa slot hty hm ho hbase hline
theorem pe_bmK (h : X.K = K) {o e : Expr} {es : List Expr} {to : TE} {t : TA} {name : Str} {apos cpos : Pos} {T id : String} {r : V → List V → Hp → VK → Prop} (pa : PlainAttrs T) (slot : Slot T name id) (hty : typeOf (.builtin id) = pure (.type "method_descriptor")) (hm : MtR X id r) (ho : PE X o to) (ha : PA X (e :: es) t) (hbase : attributeBase o name X.env (eval o X.env) = eval o X.env := by rfl) (hfew : ((backTo cpos (starEach (e :: es) X.env)).all (fun x => !x.1) && (backToKw cpos (keywordEach [] X.env)).all (fun x => x.1.isSome) && decide ((e :: es).length + ([] : List Keyword).length + (if ([] : List Keyword).isEmpty then 0 else 1) < 30)) = true := by rfl)
    (hline : (apos.endLine == cpos.line) = true := by rfl) (hs : starEach (e :: es) X.env = (false, eval e X.env) :: starEach es X.env := by rfl) (hplain : (backTo cpos (starEach es X.env)).any (·.1) = false := by rfl) : PE X (.Call (.Attribute o name apos) (e :: es) [] cpos) (tBM K T r to t) := h ▸ pe_bm pa slot hty hm ho ha hbase hfew hline hs hplain
end
section
variable {X : Cx} {P : Program} {w : World} {K : PySem.W.Frag} {mg : Str → Option Value} {base : Heap} {x : Str} {k j : Nat} {ps : List Str} {sp : Sp} {e : Expr} {es : List Expr} {t : TA} {p pos : Pos}
theorem pe_dfK (D : Df P w K mg base x k ps sp) (h1 : X.prog = P) (h2 : X.w = w) (h3 : X.K = K) (h4 : X.mg = mg) (h5 : X.base = base) (hr : Room j X.A) (hg : Gl X x) (ha : PA X (e :: es) t) (hj : k ≤ j := by decide) (hdb : (x == ("__debug__" : Str)) = false := by decide)
    (he : starEach (e :: es) X.env = (false, eval e X.env) :: starEach es X.env := by rfl) (hpl : (backTo pos (starEach es X.env)).any (·.1) = false := by rfl) : PE X (.Call (.Name x p) (e :: es) [] pos) (tCall sp [] E0 t) := by
  subst h1 h2 h3 h4 h5
  exact pe_def D hr hg ha hj hdb he hpl
theorem pe_dfK0 (D : Df P w K mg base x k ps sp) (h1 : X.prog = P) (h2 : X.w = w) (h3 : X.K = K) (h4 : X.mg = mg) (h5 : X.base = base) (hr : Room j X.A) (hg : Gl X x) (hj : k ≤ j := by decide) (hdb : (x == ("__debug__" : Str)) = false := by decide) : PE X (.Call (.Name x p) [] [] pos) (tCall sp [] E0 tNil) := by
  subst h1 h2 h3 h4 h5
  exact pe_def0 D hr hg hj hdb
end
/-! ### reversed, in a tuple without items -/
section
variable {T : Tb} {K : PySem.W.Frag} {ρ : List Sl} {te : TE} {ds : List PyData}
theorem walks_revT {G : Hp} {p : Addr} {vs : List V} (hp : SqT K G p vs) (qa : DqAll K G vs ds) : WalksD T K (RT.ItvT K p vs.length) G ds.reverse where
  go := fun i G1 H l s hi => by
    have hl := qa.length
    rw [List.length_reverse] at hi
    exact ⟨by omega, vs, vs[vs.length - 1 - i]'(by omega), sqt_le s.le (sqt_le l hp), by simp⟩
  stop := fun G1 H l s => by
    rw [List.length_reverse, ← qa.length]
    exact Nat.le_refl vs.length
  yld := fun i G1 H x H' d l s y e => by
    obtain ⟨rfl, y⟩ := y
    have hi : i < ds.length := by have := (List.getElem?_eq_some_iff.mp e).1; simpa using this
    rw [List.getElem?_reverse hi, ← qa.length] at e
    obtain ⟨v, hv, qv⟩ := qa.get e
    have := (y vs (sqt_le s.le (sqt_le l hp))).symm.trans hv
    cases this
    exact ⟨G1, .refl s, qv.le l⟩
theorem itd_revT (h : EvD T K te ρ (.tuple ds)) : ItD T K (RT.iRevA K te) ρ ds.reverse := fun H0 G H σ s t x R r => h H0 G H σ s t x _ fun v G1 H1 g q => by
  cases q with | tup e qa =>
  exact ⟨_, _, rfl, .inr ⟨sqt_le g.sub.le e, r _ G1 H1 g (walks_revT e qa)⟩⟩
theorem in_none {a : PyData} (ha : a.canLay0 = true) : OpD T K (rInX K) a (.tuple []) (.bool false) := fun G H v w s t x y Q q =>
  ⟨a, x.dp s.le, y.dp s.le, ha, q _ _ _ (.refl s) (.bl _)⟩
end
end K37
namespace K37
open PySem PySem.Spec L2
local macro_rules | `(tactic| walk_at "sz") => `(tactic| first | assumption | decide | omega)
local macro_rules | `(tactic| walk_at "call") => `(tactic| fail "no call")
local macro_rules | `(tactic| walk_at "cb") => `(tactic| first
  | with_reducible exact gcd_D | with_reducible exact len_T | with_reducible exact len_L | with_reducible exact tuple_L | with_reducible exact tuple_T | with_reducible exact max_D | with_reducible exact min_D | with_reducible exact abs_D
  | with_reducible exact int_D | with_reducible exact int_B)
local macro_rules | `(tactic| walk_at "op") => `(tactic| first
  | with_reducible exact minus_int | with_reducible exact plus_int | ((with_reducible apply times_int); walk_at "sz") | ((with_reducible apply ix_tupD); exact rfl) | ((with_reducible apply ix_lstD); exact rfl)
  | with_reducible exact lt_intD | with_reducible exact le_intD | with_reducible exact gt_intD | with_reducible exact ge_intD
  | ((with_reducible apply eq_D) <;> first | exact rfl | exact fr_shaped _ | assumption) | ((with_reducible apply ne_D) <;> first | exact rfl | exact fr_shaped _ | assumption)
  | ((with_reducible apply fdiv_int); walk_at "sz") | ((with_reducible apply fmod_int); walk_at "sz")
  | ((with_reducible apply plus_tup); walk_at "sz") | ((with_reducible apply plus_lst); walk_at "sz"))
local macro_rules | `(tactic| walk_at "evs") => `(tactic| first
  | with_reducible exact evds_nil
  | ((with_reducible apply evds_cons); (· walk_at "ev"); (· walk_at "evs")))
local macro_rules | `(tactic| walk_at "ev") => `(tactic| first
  | assumption
  | ((with_reducible apply evd_var); exact rfl)
  | with_reducible exact evd_int | with_reducible exact evd_cst | with_reducible exact evd_non | with_reducible exact evd_bl
  | ((with_reducible apply evd_op); (· walk_at "ev"); (· walk_at "ev"); (· walk_at "op"))
  | ((with_reducible apply evd_un); (· walk_at "ev"); (· with_reducible exact neg_intD))
  | ((with_reducible apply evd_call); (· walk_at "evs"); (· walk_at "call"))
  | ((with_reducible apply evd_cb); (· walk_at "evs"); (· walk_at "cb"))
  | ((with_reducible apply evd_tup); (· walk_at "evs"); (· exact Nat.le_of_ble_eq_true rfl))
  | ((with_reducible apply evd_isN); walk_at "ev") | ((with_reducible apply evd_notN); walk_at "ev")
  | ((with_reducible apply evd_not); walk_at "ev"))
local macro_rules | `(tactic| walk_at "te") => `(tactic| first
  | ((with_reducible apply ted_test); walk_at "ev") | ((with_reducible apply ted_B); walk_at "ev") | ((with_reducible apply ted_not); walk_at "te"))

def fWhole (ds : List PyData) (d : PyData) : Prop := ∃ n : Int, ds = [.int n] ∧ d = fr (n : Rat)
def fFraction (ds : List PyData) (d : PyData) : Prop := ∃ a b : Int, ds = [.int a, .int b] ∧ b ≠ 0 ∧ b.natAbs < 2 ^ 8002 ∧ d = fr (Rat.divInt a b)
def fPlus (ds : List PyData) (d : PyData) : Prop := ∃ x y : Rat, ds = [fr x, fr y] ∧ Sm 4000 x ∧ Sm 4000 y ∧ d = fr (x + y)
def fTimes (ds : List PyData) (d : PyData) : Prop := ∃ x y : Rat, ds = [fr x, fr y] ∧ Sm 4000 x ∧ Sm 4000 y ∧ d = fr (x * y)
def fOver (ds : List PyData) (d : PyData) : Prop := ∃ x y : Rat, ds = [fr x, fr y] ∧ Sm 4000 x ∧ Sm 4000 y ∧ y ≠ 0 ∧ d = fr (x / y)
theorem sm_mul {i j : Int} {a b : Nat} (hi : i.natAbs < 2 ^ a) (hj : j.natAbs < 2 ^ b) (h0 : 0 < a := by decide) (h1 : 0 < b := by decide) (h : a + b ≤ 1000000 := by decide) : CMulX i j := .inl (wide_mul hi hj h0 h1 h)
section
variable {P : Program} {w : World} {K : PySem.W.Frag} {mg : Str → Option Value} {base : Heap} {T : Tb}
theorem sc_whole : FnScope ["number"] ["number"] (defScope (top 11)) := ⟨rfl, rfl, rfl, by decide +kernel, rfl, by decide +kernel, by decide +kernel⟩
theorem d_whole (C : CT P w K mg base T) : Df P w K mg base "whole" 1 ["number"] (spF T K fWhole) := by
  refine df_of C (i := 5) (x := "whole") (N := ["number"]) (n := 0) rfl sc_whole (fun _ _ _ _ _ _ us hl => match us, hl with | [_], _ => rfl) ?_ rfl fun cdv A outer s H E fa hr => ⟨_, (pss_one (ps_ret (pe_tup (pa_cons (pv 0) (pa_cons pe_int pa_nil))))), ?_⟩
  · rintro _ _ ⟨n, rfl, rfl⟩
    rfl
  · rintro _ _ ⟨n, rfl, rfl⟩
    rw [fr_int]
    exact std_ret (by walk_at "ev")
theorem sc_fraction : FnScope ["top", "bottom", "common"] ["top", "bottom"] (defScope (top 10)) := ⟨rfl, rfl, rfl, by decide +kernel, rfl, by decide +kernel, by decide +kernel⟩
theorem d_fraction (C : CT P w K mg base T) : Df P w K mg base "fraction" 1 ["top", "bottom"] (spF T K fFraction) := by
  refine df_of C (i := 4) (x := "fraction") (N := ["top", "bottom", "common"]) (n := 1) rfl sc_fraction (fun _ _ _ _ _ _ us hl => match us, hl with | [_, _], _ => rfl) ?_ rfl fun cdv A outer s H E fa hr => ⟨_, (pss_cons (ps_if (pt_cmpR (op_eqK K rfl hr.units) (pv 1) pe_int (nomark _)) (pss_one ps_never) pss_nil)
  (pss_cons (ps_set (i := 2) sc_fraction.nd rfl (by first | exact Or.inl rfl | exact Or.inr rfl) (pe_callBfun cr_gcd (by rfl) C.gcd (pa_cons (pv 0) (pa_cons (pv 1) pa_nil))))
  (pss_cons (ps_if (pt_cmpR op_lt (pv 1) pe_int (nomark _)) (pss_one (ps_set (i := 2) sc_fraction.nd rfl (by first | exact Or.inl rfl | exact Or.inr rfl) (pe_un un_neg (pv 2)))) pss_nil)
  (pss_one (ps_ret (pe_tup (pa_cons (pe_op op_fdivZ (pv 0) (pv 2)) (pa_cons (pe_op op_fdivZ (pv 1) (pv 2)) pa_nil)))))))), ?_⟩
  · rintro _ _ ⟨a, b, rfl, hb, hs, rfl⟩
    rfl
  · rintro _ _ ⟨a, b, rfl, hb, hs, rfl⟩
    have hz : PyData.eqv (.int b) (.int 0) = false := by
      simp only [PyData.eqv]
      exact beq_eq_false_iff_ne.mpr hb
    have hg0 : 0 < Nat.gcd a.natAbs b.natAbs := Nat.gcd_pos_of_pos_right _ (by omega)
    have hgb : Nat.gcd a.natAbs b.natAbs ≤ b.natAbs := Nat.le_of_dvd (by omega) (Nat.gcd_dvd_right _ _)
    have hc : ∀ x : Int, CDivZ x (if b < 0 then -((Nat.gcd a.natAbs b.natAbs : Nat) : Int) else ((Nat.gcd a.natAbs b.natAbs : Nat) : Int)) := fun x => by
      refine ⟨by split <;> omega, ?_⟩
      have e : (if b < 0 then -((Nat.gcd a.natAbs b.natAbs : Nat) : Int) else ((Nat.gcd a.natAbs b.natAbs : Nat) : Int)).natAbs = Nat.gcd a.natAbs b.natAbs := by split <;> omega
      rw [e]
      have : Nat.gcd a.natAbs b.natAbs < 2 ^ 8002 := Nat.lt_of_le_of_lt hgb hs
      have := PySem.Flt.log2_lt_of (by decide) this
      omega
    refine std_seq (std_if (x := PyData.eqv (.int b) (.int 0)) (by walk_at "te") (fun h => by rw [hz] at h; cases h) (fun _ => std_next)) ?_
    refine std_seq (std_asg (by walk_at "ev")) ?_
    refine std_seq (ρ1 := [.dat (.int a), .dat (.int b), .dat (.int (if b < 0 then -((Nat.gcd a.natAbs b.natAbs : Nat) : Int) else ((Nat.gcd a.natAbs b.natAbs : Nat) : Int)))]) (std_if (x := decide (b < 0)) (by walk_at "te") (fun h => ?_) (fun h => ?_)) ?_
    · rw [if_pos (of_decide_eq_true h)]
      exact std_asg (by walk_at "ev")
    · rw [if_neg (of_decide_eq_false h)]
      exact std_next
    · unfold fr
      rw [← div_num hb, ← div_den hb]
      have h1 := hc a
      have h2 := hc b
      exact std_ret (by walk_at "ev")
theorem c_whole {n : Int} : fWhole [.int n] (fr (n : Rat)) := ⟨n, rfl, rfl⟩
theorem c_fraction {a b : Int} (h : b ≠ 0) (h2 : b.natAbs < 2 ^ 8002) : fFraction [.int a, .int b] (fr (Rat.divInt a b)) := ⟨a, b, rfl, h, h2, rfl⟩
local macro_rules | `(tactic| walk_at "call") => `(tactic| with_reducible exact c_whole)
local macro_rules | `(tactic| walk_at "call") => `(tactic| ((with_reducible apply c_fraction) <;> walk_at "sz"))
theorem sm_den {x y : Rat} (hx : Sm 4000 x) (hy : Sm 4000 y) : ((x.den : Int) * y.den).natAbs < 2 ^ 8002 := by
  have : ((x.den : Int) * y.den).natAbs < 2 ^ (4000 + 4000) := wide_lt (by have := hx.2; simpa using this) (by have := hy.2; simpa using this)
  exact Nat.lt_of_lt_of_le this (Nat.pow_le_pow_right (by decide) (by decide))
theorem den_ne {x y : Rat} : (x.den : Int) * y.den ≠ 0 := by
  have h1 := x.den_nz
  have h2 := y.den_nz
  intro e
  rcases Int.mul_eq_zero.mp e with h | h <;> omega
theorem sc_plus : FnScope ["x", "y"] ["x", "y"] (defScope (top 12)) := ⟨rfl, rfl, rfl, by decide +kernel, rfl, by decide +kernel, by decide +kernel⟩
theorem d_plus (C : CT P w K mg base T) : Df P w K mg base "plus" 2 ["x", "y"] (spF T K fPlus) := by
  refine df_of C (i := 6) (x := "plus") (N := ["x", "y"]) (n := 0) rfl sc_plus (fun _ _ _ _ _ _ us hl => match us, hl with | [_, _], _ => rfl) ?_ rfl fun cdv A outer s H E fa hr => ⟨_, (pss_one (ps_ret (pe_dfK (d_fraction C) rfl rfl rfl rfl rfl hr (by rfl) (pa_cons (pe_op (op_plusK K rfl) (pe_op (op_timesK K rfl) (pe_ix (ix_seqK K rfl) (pv 0) pe_int (fun _ _ => rfl)) (pe_ix (ix_seqK K rfl) (pv 1) pe_int (fun _ _ => rfl))) (pe_op (op_timesK K rfl) (pe_ix (ix_seqK K rfl) (pv 1) pe_int (fun _ _ => rfl)) (pe_ix (ix_seqK K rfl) (pv 0) pe_int (fun _ _ => rfl)))) (pa_cons (pe_op (op_timesK K rfl) (pe_ix (ix_seqK K rfl) (pv 0) pe_int (fun _ _ => rfl)) (pe_ix (ix_seqK K rfl) (pv 1) pe_int (fun _ _ => rfl))) pa_nil))))), ?_⟩
  · rintro _ _ ⟨x, y, rfl, hx, hy, rfl⟩
    rfl
  · rintro _ _ ⟨x, y, rfl, hx, hy, rfl⟩
    have s1 : CMulX x.num y.den := sm_mul hx.1 (by have := hy.2; simpa using this)
    have s2 : CMulX y.num x.den := sm_mul hy.1 (by have := hx.2; simpa using this)
    have s3 : CMulX x.den y.den := sm_mul (i := x.den) (by have := hx.2; simpa using this) (by have := hy.2; simpa using this)
    have s4 := sm_den hx hy
    have s5 : (x.den : Int) * y.den ≠ 0 := den_ne
    rw [← rat_plus]
    exact std_ret (by walk_at "ev")
theorem sc_times : FnScope ["x", "y"] ["x", "y"] (defScope (top 13)) := ⟨rfl, rfl, rfl, by decide +kernel, rfl, by decide +kernel, by decide +kernel⟩
theorem d_times (C : CT P w K mg base T) : Df P w K mg base "times" 2 ["x", "y"] (spF T K fTimes) := by
  refine df_of C (i := 7) (x := "times") (N := ["x", "y"]) (n := 0) rfl sc_times (fun _ _ _ _ _ _ us hl => match us, hl with | [_, _], _ => rfl) ?_ rfl fun cdv A outer s H E fa hr => ⟨_, (pss_one (ps_ret (pe_dfK (d_fraction C) rfl rfl rfl rfl rfl hr (by rfl) (pa_cons (pe_op (op_timesK K rfl) (pe_ix (ix_seqK K rfl) (pv 0) pe_int (fun _ _ => rfl)) (pe_ix (ix_seqK K rfl) (pv 1) pe_int (fun _ _ => rfl))) (pa_cons (pe_op (op_timesK K rfl) (pe_ix (ix_seqK K rfl) (pv 0) pe_int (fun _ _ => rfl)) (pe_ix (ix_seqK K rfl) (pv 1) pe_int (fun _ _ => rfl))) pa_nil))))), ?_⟩
  · rintro _ _ ⟨x, y, rfl, hx, hy, rfl⟩
    rfl
  · rintro _ _ ⟨x, y, rfl, hx, hy, rfl⟩
    have s1 : CMulX x.num y.num := sm_mul hx.1 hy.1
    have s3 : CMulX x.den y.den := sm_mul (i := x.den) (by have := hx.2; simpa using this) (by have := hy.2; simpa using this)
    have s4 := sm_den hx hy
    have s5 : (x.den : Int) * y.den ≠ 0 := den_ne
    rw [← rat_times]
    exact std_ret (by walk_at "ev")
theorem sc_over : FnScope ["x", "y"] ["x", "y"] (defScope (top 14)) := ⟨rfl, rfl, rfl, by decide +kernel, rfl, by decide +kernel, by decide +kernel⟩
theorem d_over (C : CT P w K mg base T) : Df P w K mg base "over" 2 ["x", "y"] (spF T K fOver) := by
  refine df_of C (i := 8) (x := "over") (N := ["x", "y"]) (n := 0) rfl sc_over (fun _ _ _ _ _ _ us hl => match us, hl with | [_, _], _ => rfl) ?_ rfl fun cdv A outer s H E fa hr => ⟨_, (pss_one (ps_ret (pe_dfK (d_fraction C) rfl rfl rfl rfl rfl hr (by rfl) (pa_cons (pe_op (op_timesK K rfl) (pe_ix (ix_seqK K rfl) (pv 0) pe_int (fun _ _ => rfl)) (pe_ix (ix_seqK K rfl) (pv 1) pe_int (fun _ _ => rfl))) (pa_cons (pe_op (op_timesK K rfl) (pe_ix (ix_seqK K rfl) (pv 0) pe_int (fun _ _ => rfl)) (pe_ix (ix_seqK K rfl) (pv 1) pe_int (fun _ _ => rfl))) pa_nil))))), ?_⟩
  · rintro _ _ ⟨x, y, rfl, hx, hy, hz, rfl⟩
    rfl
  · rintro _ _ ⟨x, y, rfl, hx, hy, hz, rfl⟩
    have s1 : CMulX x.num y.den := sm_mul hx.1 (by have := hy.2; simpa using this)
    have s3 : CMulX x.den y.num := sm_mul (i := x.den) (by have := hx.2; simpa using this) hy.1
    have s4 : ((x.den : Int) * y.num).natAbs < 2 ^ 8002 := by
      have : ((x.den : Int) * y.num).natAbs < 2 ^ (4000 + 4000) := wide_lt (by have := hx.2; simpa using this) hy.1
      exact Nat.lt_of_lt_of_le this (Nat.pow_le_pow_right (by decide) (by decide))
    have s5 : (x.den : Int) * y.num ≠ 0 := fun e => by
      rcases Int.mul_eq_zero.mp e with h | h
      · have := x.den_nz; omega
      · exact hz (num_zero.mp h)
    rw [← rat_over]
    exact std_ret (by walk_at "ev")
def fLess (ds : List PyData) (d : PyData) : Prop := ∃ x y : Rat, ds = [fr x, fr y] ∧ Sm 4000 x ∧ Sm 4000 y ∧ d = .bool (decide (x < y))
theorem sc_is_less : FnScope ["x", "y"] ["x", "y"] (defScope (top 15)) := ⟨rfl, rfl, rfl, by decide +kernel, rfl, by decide +kernel, by decide +kernel⟩
theorem d_is_less (C : CT P w K mg base T) : Df P w K mg base "is_less" 1 ["x", "y"] (spF T K fLess) := by
  refine df_of C (i := 9) (x := "is_less") (N := ["x", "y"]) (n := 0) rfl sc_is_less (fun _ _ _ _ _ _ us hl => match us, hl with | [_, _], _ => rfl) ?_ rfl fun cdv A outer s H E fa hr => ⟨_, (pss_one (ps_ret (pe_cmpR op_lt (pe_op (op_timesK K rfl) (pe_ix (ix_seqK K rfl) (pv 0) pe_int (fun _ _ => rfl)) (pe_ix (ix_seqK K rfl) (pv 1) pe_int (fun _ _ => rfl))) (pe_op (op_timesK K rfl) (pe_ix (ix_seqK K rfl) (pv 1) pe_int (fun _ _ => rfl)) (pe_ix (ix_seqK K rfl) (pv 0) pe_int (fun _ _ => rfl))) (nomark _)))), ?_⟩
  · rintro _ _ ⟨x, y, rfl, hx, hy, rfl⟩
    rfl
  · rintro _ _ ⟨x, y, rfl, hx, hy, rfl⟩
    have s1 : CMulX x.num y.den := sm_mul hx.1 (by have := hy.2; simpa using this)
    have s2 : CMulX y.num x.den := sm_mul hy.1 (by have := hx.2; simpa using this)
    have e : decide (x < y) = decide (x.num * y.den < y.num * x.den) := by
      by_cases h : x < y
      · rw [decide_eq_true h, decide_eq_true ((Rat.lt_iff x y).mp h)]
      · rw [decide_eq_false h, decide_eq_false fun q => h ((Rat.lt_iff x y).mpr q)]
    rw [e]
    exact std_ret (by walk_at "ev")
def fSize (ds : List PyData) (d : PyData) : Prop := ∃ x : Rat, ds = [fr x] ∧ d = fr x.abs
theorem abs_num (x : Rat) : x.abs.num = x.num.natAbs := by
  unfold Rat.abs
  split
  · have := Rat.num_nonneg.mpr ‹_›; omega
  · rw [Rat.neg_num]
    have : x.num < 0 := by
      have h : ¬ 0 ≤ x := ‹_›
      have := mt Rat.num_nonneg.mp h
      omega
    omega
theorem abs_den (x : Rat) : x.abs.den = x.den := by
  unfold Rat.abs
  split
  · rfl
  · exact Rat.neg_den x
theorem sc_size_of : FnScope ["x"] ["x"] (defScope (top 16)) := ⟨rfl, rfl, rfl, by decide +kernel, rfl, by decide +kernel, by decide +kernel⟩
theorem d_size_of (C : CT P w K mg base T) : Df P w K mg base "size_of" 1 ["x"] (spF T K fSize) := by
  refine df_of C (i := 10) (x := "size_of") (N := ["x"]) (n := 0) rfl sc_size_of (fun _ _ _ _ _ _ us hl => match us, hl with | [_], _ => rfl) ?_ rfl fun cdv A outer s H E fa hr => ⟨_, (pss_one (ps_ret (pe_tup (pa_cons (pe_callB call_abs (by rfl) (C.free 0 _ rfl) (by decide +kernel) (pa_cons (pe_ix (ix_seqK K rfl) (pv 0) pe_int (fun _ _ => rfl)) pa_nil)) (pa_cons (pe_ix (ix_seqK K rfl) (pv 0) pe_int (fun _ _ => rfl)) pa_nil))))), ?_⟩
  · rintro _ _ ⟨x, rfl, rfl⟩
    rfl
  · rintro _ _ ⟨x, rfl, rfl⟩
    unfold fr
    rw [abs_num, abs_den]
    exact std_ret (by walk_at "ev")
theorem c_plus {x y : Rat} (hx : Sm 4000 x) (hy : Sm 4000 y) : fPlus [fr x, fr y] (fr (x + y)) := ⟨x, y, rfl, hx, hy, rfl⟩
theorem c_times {x y : Rat} (hx : Sm 4000 x) (hy : Sm 4000 y) : fTimes [fr x, fr y] (fr (x * y)) := ⟨x, y, rfl, hx, hy, rfl⟩
theorem c_over {x y : Rat} (hx : Sm 4000 x) (hy : Sm 4000 y) (h : y ≠ 0) : fOver [fr x, fr y] (fr (x / y)) := ⟨x, y, rfl, hx, hy, h, rfl⟩
theorem c_less {x y : Rat} (hx : Sm 4000 x) (hy : Sm 4000 y) : fLess [fr x, fr y] (.bool (decide (x < y))) := ⟨x, y, rfl, hx, hy, rfl⟩
theorem c_size {x : Rat} : fSize [fr x] (fr x.abs) := ⟨x, rfl, rfl⟩
/-! ### tuple_of: lists become tuples, at any depth below 7 -/
mutual
def tupD : PyData → PyData
  | .list xs => .tuple (tupDs xs)
  | .tuple xs => .tuple (tupDs xs)
  | .none => .none
  | .bool b => .bool b
  | .int i => .int i
  | .str s => .str s
  | .dict s => .dict s
def tupDs : List PyData → List PyData
  | [] => []
  | x :: xs => tupD x :: tupDs xs
end
theorem tupDs_map : ∀ xs : List PyData, tupDs xs = xs.map tupD
  | [] => rfl
  | x :: xs => by rw [tupDs, tupDs_map xs]; rfl
mutual
def dep : PyData → Nat
  | .list xs => deps xs + 1
  | .tuple xs => deps xs + 1
  | _ => 0
def deps : List PyData → Nat
  | [] => 0
  | x :: xs => max (dep x) (deps xs)
end
theorem dep_mem : ∀ {xs : List PyData} {x : PyData}, x ∈ xs → dep x ≤ deps xs
  | y :: ys, x, h => by
    rw [deps]
    rcases (List.mem_cons.mp h) with e | e
    · subst e; omega
    · have := dep_mem e; omega
/-! ints, bools, None, lists and tuples alone; no long ones -/
mutual
def okD : PyData → Bool
  | .list xs => decide (xs.length ≤ 10000) && okDs xs
  | .tuple xs => decide (xs.length ≤ 10000) && okDs xs
  | .str _ => false
  | .dict _ => false
  | _ => true
def okDs : List PyData → Bool
  | [] => true
  | x :: xs => okD x && okDs xs
end
theorem okD_mem : ∀ {xs : List PyData} {x : PyData}, okDs xs = true → x ∈ xs → okD x = true
  | y :: ys, x, h, hm => by
    rw [okDs, Bool.and_eq_true] at h
    rcases (List.mem_cons.mp hm) with e | e
    · subst e; exact h.1
    · exact okD_mem h.2 e
def fTupleOf (k : Nat) (ds : List PyData) (d : PyData) : Prop := ∃ x, ds = [x] ∧ dep x ≤ k ∧ okD x = true ∧ d = tupD x
theorem sc_tuple_of : FnScope ["thing", "part"] ["thing"] (defScope (top 3)) := ⟨rfl, rfl, rfl, by decide +kernel, rfl, by decide +kernel, by decide +kernel⟩
theorem kit1 : kitB "NoneType" "list" = some false ∧ kitB "bool" "list" = some false ∧ kitB "int" "list" = some false ∧ kitB "list" "list" = some true ∧ kitB "tuple" "list" = some false := ⟨by decide +kernel, by decide +kernel, by decide +kernel, by decide +kernel, by decide +kernel⟩
theorem kit2 : kitB "NoneType" "tuple" = some false ∧ kitB "bool" "tuple" = some false ∧ kitB "int" "tuple" = some false ∧ kitB "list" "tuple" = some false ∧ kitB "tuple" "tuple" = some true := ⟨by decide +kernel, by decide +kernel, by decide +kernel, by decide +kernel, by decide +kernel⟩
def isSq : PyData → Bool
  | .list _ => true
  | .tuple _ => true
  | _ => false
theorem kit_lt {x : PyData} (h : okD x = true) : ∃ b1 b2, kitB (tyD x) "list" = some b1 ∧ kitB (tyD x) "tuple" = some b2 ∧ (b1 || b2) = isSq x := by
  cases x with
  | none => exact ⟨false, false, kit1.1, kit2.1, rfl⟩
  | bool _ => exact ⟨false, false, kit1.2.1, kit2.2.1, rfl⟩
  | int _ => exact ⟨false, false, kit1.2.2.1, kit2.2.2.1, rfl⟩
  | list _ => exact ⟨true, false, kit1.2.2.2.1, kit2.2.2.2.1, rfl⟩
  | tuple _ => exact ⟨false, true, kit1.2.2.2.2, kit2.2.2.2.2, rfl⟩
  | str s => rw [okD] at h; cases h
  | dict s => rw [okD] at h; cases h
theorem tuple_of_0 (C : CT P w K mg base T) : Df P w K mg base "tuple_of" 1 ["thing"] (spF T K (fTupleOf 0)) := by
  refine df_of C (i := 1) (x := "tuple_of") (N := ["thing", "part"]) (n := 1) rfl sc_tuple_of (fun _ _ _ _ _ _ us hl => match us, hl with | [_], _ => rfl) ?_ rfl fun cdv A outer s H E fa hr => ⟨_,
    (pss_cons (ps_if (pt_val (pe_callB (call_isiK2 K rfl) (by rfl) (C.free 6 _ rfl) (by decide +kernel) (pa_cons (pv 0) (pa_cons (pe_tup (pa_cons (pe_bltn (v := .ty "list") (by rfl) (C.free 8 _ rfl) (by decide +kernel) rfl) (pa_cons (pe_bltn (v := .ty "tuple") (by rfl) (C.free 16 _ rfl) (by decide +kernel) rfl) pa_nil))) pa_nil)))) (pss_one ps_never) pss_nil) (pss_one (ps_ret (pv 0)))), ?_⟩
  · rintro _ _ ⟨x, rfl, _⟩
    rfl
  · rintro _ _ ⟨x, rfl, h0, hk, rfl⟩
    obtain ⟨b1, b2, e1, e2, e3⟩ := kit_lt hk
    have ef : (b1 || b2) = false ∧ tupD x = x := by
      rw [e3]
      cases x with
      | list xs => rw [dep] at h0; omega
      | tuple xs => rw [dep] at h0; omega
      | none => exact ⟨rfl, by rw [tupD]⟩
      | bool _ => exact ⟨rfl, by rw [tupD]⟩
      | int _ => exact ⟨rfl, by rw [tupD]⟩
      | str _ => rw [okD] at hk; cases hk
      | dict _ => rw [okD] at hk; cases hk
    rw [ef.2]
    exact std_seq (std_if (x := false) ((ted_B (evd_isi2 (evd_var rfl) e1 e2)).is ef.1) (fun h => by cases h) fun _ => std_next) (std_ret (evd_var rfl))
theorem tuple_of_s (C : CT P w K mg base T) {k : Nat} (D : Df P w K mg base "tuple_of" (k + 1) ["thing"] (spF T K (fTupleOf k))) : Df P w K mg base "tuple_of" (k + 2) ["thing"] (spF T K (fTupleOf (k + 1))) := by
  refine df_of C (i := 1) (x := "tuple_of") (N := ["thing", "part"]) (n := 1) rfl sc_tuple_of (fun _ _ _ _ _ _ us hl => match us, hl with | [_], _ => rfl) ?_ rfl fun cdv A outer s H E fa hr => ⟨_,
    (pss_cons (ps_if (pt_val (pe_callB (call_isiK2 K rfl) (by rfl) (C.free 6 _ rfl) (by decide +kernel) (pa_cons (pv 0) (pa_cons (pe_tup (pa_cons (pe_bltn (v := .ty "list") (by rfl) (C.free 8 _ rfl) (by decide +kernel) rfl) (pa_cons (pe_bltn (v := .ty "tuple") (by rfl) (C.free 16 _ rfl) (by decide +kernel) rfl) pa_nil))) pa_nil)))) (pss_one (ps_ret (pe_callTy (call_tupleK K rfl) (by rfl) (C.free 16 _ rfl) (by decide +kernel) (pa_cons (pe_lc rfl sc_tuple_of.nd (pi_seqK K rfl (pv 0)) (blkOk_by (own := [("part", 1)]) (by kernel_rfl)) (fun _ _ _ _ _ => (pg_name (i := 1) sc_tuple_of.nd rfl (by first | exact Or.inl rfl | exact Or.inr rfl))) (fun _ _ _ _ _ => pts_nil) (fun _ _ _ _ _ => (pe_dfK (hj := Nat.le_refl _) D rfl rfl rfl rfl rfl hr (by rfl) (pa_cons (pv 1) pa_nil)))) pa_nil)))) pss_nil)
  (pss_one (ps_ret (pv 0)))), ?_⟩
  · rintro _ _ ⟨x, rfl, _⟩
    rfl
  · rintro _ _ ⟨x, rfl, h0, hk, rfl⟩
    obtain ⟨b1, b2, e1, e2, e3⟩ := kit_lt hk
    have el : ∀ xs : List PyData, deps xs ≤ k → okDs xs = true → ∀ (i : Nat) (d e : PyData), xs[i]? = some d → (xs.map tupD)[i]? = some e → ∃ ρ1, TgD K (gName 1) [1] d (wipeL [.dat x, .any] [1]) ρ1 ∧ EvD T K (tCall (spF T K (fTupleOf k)) [] E0 (tCons (tVar 1) tNil)) ρ1 e := fun xs hd ho i d e h1 h2 => by
      rw [List.getElem?_map, h1] at h2
      cases h2
      have hm := List.mem_of_getElem? h1
      exact ⟨_, tgd_name, evd_call (evds_cons (evd_var rfl) evds_nil) ⟨d, rfl, Nat.le_trans (dep_mem hm) hd, okD_mem ho hm, rfl⟩⟩
    cases x with
    | list xs =>
      rw [dep] at h0
      rw [okD, Bool.and_eq_true] at hk
      have hz := of_decide_eq_true hk.1
      rw [tupD, tupDs_map]
      refine std_seqR (std_if (x := true) ((ted_B (evd_isi2 (evd_var rfl) e1 e2)).is e3) (fun _ => std_ret (evd_cb (evds_cons (evf_lc (js := [1]) (xs.map tupD) (itd_L (evd_var rfl)) (by decide) (by simp) hz (el xs (by omega) hk.2)).ev evds_nil) tuple_L)) fun h => by cases h)
    | tuple xs =>
      rw [dep] at h0
      rw [okD, Bool.and_eq_true] at hk
      have hz := of_decide_eq_true hk.1
      rw [tupD, tupDs_map]
      refine std_seqR (std_if (x := true) ((ted_B (evd_isi2 (evd_var rfl) e1 e2)).is e3) (fun _ => std_ret (evd_cb (evds_cons (evf_lc (js := [1]) (xs.map tupD) (itd_T (evd_var rfl)) (by decide) (by simp) hz (el xs (by omega) hk.2)).ev evds_nil) tuple_L)) fun h => by cases h)
    | none => exact std_seq (std_if (x := false) ((ted_B (evd_isi2 (evd_var rfl) e1 e2)).is e3) (fun h => by cases h) fun _ => std_next) (std_ret (by rw [tupD]; exact evd_var rfl))
    | bool _ => exact std_seq (std_if (x := false) ((ted_B (evd_isi2 (evd_var rfl) e1 e2)).is e3) (fun h => by cases h) fun _ => std_next) (std_ret (by rw [tupD]; exact evd_var rfl))
    | int _ => exact std_seq (std_if (x := false) ((ted_B (evd_isi2 (evd_var rfl) e1 e2)).is e3) (fun h => by cases h) fun _ => std_next) (std_ret (by rw [tupD]; exact evd_var rfl))
    | str _ => rw [okD] at hk; cases hk
    | dict _ => rw [okD] at hk; cases hk
theorem tuple_of_k (C : CT P w K mg base T) : ∀ k, Df P w K mg base "tuple_of" (k + 1) ["thing"] (spF T K (fTupleOf k))
  | 0 => tuple_of_0 C
  | k + 1 => tuple_of_s C (tuple_of_k C k)
theorem d_tuple_of (C : CT P w K mg base T) : Df P w K mg base "tuple_of" 8 ["thing"] (spF T K (fTupleOf 7)) := tuple_of_k C 7
end
end K37
namespace K37
open PySem PySem.Spec L2
local macro_rules | `(tactic| walk_at "sz") => `(tactic| first | assumption | decide | omega)
local macro_rules | `(tactic| walk_at "call") => `(tactic| fail "no call")
local macro_rules | `(tactic| walk_at "cb") => `(tactic| first
  | with_reducible exact gcd_D | with_reducible exact len_T | with_reducible exact len_L | with_reducible exact tuple_L | with_reducible exact tuple_T | with_reducible exact max_D | with_reducible exact min_D | with_reducible exact abs_D
  | with_reducible exact int_D | with_reducible exact int_B)
local macro_rules | `(tactic| walk_at "op") => `(tactic| first
  | with_reducible exact minus_int | with_reducible exact plus_int | ((with_reducible apply times_int); walk_at "sz") | ((with_reducible apply ix_tupD); exact rfl) | ((with_reducible apply ix_lstD); exact rfl)
  | with_reducible exact lt_intD | with_reducible exact le_intD | with_reducible exact gt_intD | with_reducible exact ge_intD
  | ((with_reducible apply eq_D) <;> first | exact rfl | exact fr_shaped _ | assumption) | ((with_reducible apply ne_D) <;> first | exact rfl | exact fr_shaped _ | assumption)
  | ((with_reducible apply fdiv_int); walk_at "sz") | ((with_reducible apply fmod_int); walk_at "sz")
  | ((with_reducible apply plus_tup); walk_at "sz") | ((with_reducible apply plus_lst); walk_at "sz"))
local macro_rules | `(tactic| walk_at "evs") => `(tactic| first
  | with_reducible exact evds_nil
  | ((with_reducible apply evds_cons); (· walk_at "ev"); (· walk_at "evs")))
local macro_rules | `(tactic| walk_at "ev") => `(tactic| first
  | assumption
  | ((with_reducible apply evd_var); exact rfl)
  | with_reducible exact evd_int | with_reducible exact evd_cst | with_reducible exact evd_non | with_reducible exact evd_bl
  | ((with_reducible apply evd_op); (· walk_at "ev"); (· walk_at "ev"); (· walk_at "op"))
  | ((with_reducible apply evd_un); (· walk_at "ev"); (· with_reducible exact neg_intD))
  | ((with_reducible apply evd_call); (· walk_at "evs"); (· walk_at "call"))
  | ((with_reducible apply evd_cb); (· walk_at "evs"); (· walk_at "cb"))
  | ((with_reducible apply evd_tup); (· walk_at "evs"); (· exact Nat.le_of_ble_eq_true rfl))
  | ((with_reducible apply evd_isN); walk_at "ev") | ((with_reducible apply evd_notN); walk_at "ev")
  | ((with_reducible apply evd_not); walk_at "ev"))
local macro_rules | `(tactic| walk_at "te") => `(tactic| first
  | ((with_reducible apply ted_test); walk_at "ev") | ((with_reducible apply ted_B); walk_at "ev") | ((with_reducible apply ted_not); walk_at "te"))

/-! ### ROWS as data -/
abbrev pr (p : Int × Rat) : PyData := .tuple [.int p.1, fr p.2]
abbrev rw_ (r : Row) : PyData := .tuple (r.map pr)
/-- lists and dicts are nowhere in it: tuple_of leaves it -/
theorem tup_fr (q : Rat) : tupD (fr q) = fr q := by simp only [tupD, tupDs]
theorem tup_pr (p : Int × Rat) : tupD (pr p) = pr p := by simp only [tupD, tupDs, pr, fr]
theorem tup_map {α : Type} (f : α → PyData) (h : ∀ x, tupD (f x) = f x) (l : List α) : tupDs (l.map f) = l.map f := by
  rw [tupDs_map, List.map_map]
  exact List.map_congr_left fun x _ => h x
theorem tup_row (r : Row) : tupD (rw_ r) = rw_ r := by
  show PyData.tuple (tupDs (r.map pr)) = _
  rw [tup_map pr tup_pr]
theorem deps_map {α : Type} (f : α → PyData) {k : Nat} (h : ∀ x, dep (f x) ≤ k) : ∀ l : List α, deps (l.map f) ≤ k
  | [] => Nat.zero_le _
  | x :: l => by
    have h1 := h x
    have h2 := deps_map f h l
    show max (dep (f x)) (deps (l.map f)) ≤ k
    omega
theorem okDs_map {α : Type} (f : α → PyData) (h : ∀ x, okD (f x) = true) : ∀ l : List α, okDs (l.map f) = true
  | [] => rfl
  | x :: l => by
    show (okD (f x) && okDs (l.map f)) = true
    rw [h x, okDs_map f h l]; rfl
theorem dep_fr (q : Rat) : dep (fr q) = 1 := by simp [dep, deps]
theorem dep_pr (p : Int × Rat) : dep (pr p) = 2 := by simp [dep, deps]
theorem ok_fr (q : Rat) : okD (fr q) = true := by simp [okD, okDs]
theorem ok_pr (p : Int × Rat) : okD (pr p) = true := by simp [okD, okDs]
theorem c_tuple_of_row {r : Row} (h : r.length ≤ 1000) : fTupleOf 7 [rw_ r] (rw_ r) := by
  refine ⟨_, rfl, ?_, ?_, (tup_row r).symm⟩
  · have := deps_map pr (k := 2) (fun x => by rw [dep_pr]; omega) r
    show deps (r.map pr) + 1 ≤ 7
    omega
  · show (decide ((r.map pr).length ≤ 10000) && okDs (r.map pr)) = true
    rw [okDs_map pr ok_pr, List.length_map, decide_eq_true (by omega)]; rfl
def SmR (r : Row) : Prop := ∀ p ∈ r, Sm 4000 p.2
/-! ### reversed, in a tuple without items -/
theorem sm_neg1 : Sm 4000 (-1) := ⟨by show (1 : Nat) < 2 ^ 4000; exact Nat.one_lt_two_pow (by decide), by show (1 : Nat) < 2 ^ 4000; exact Nat.one_lt_two_pow (by decide)⟩
def fTurned (ds : List PyData) (d : PyData) : Prop := ∃ r : Row, ds = [rw_ r] ∧ r.length ≤ 1000 ∧ SmR r ∧ d = rw_ (turnR r)
def fJoined (ds : List PyData) (d : PyData) : Prop := ∃ r s : Row, ds = [rw_ r, rw_ s] ∧ r.length ≤ 1000 ∧ s.length ≤ 1000 ∧ d = rw_ (r ++ s)
def fTogether (ds : List PyData) (d : PyData) : Prop := ∃ a b : Int, ds = [.int a, .int b, .tuple []] ∧ d = .bool false
section
variable {P : Program} {w : World} {K : PySem.W.Frag} {mg : Str → Option Value} {base : Heap} {T : Tb}
local macro_rules | `(tactic| walk_at "call") => `(tactic| ((with_reducible apply c_tuple_of_row); walk_at "sz"))
local macro_rules | `(tactic| walk_at "call") => `(tactic| ((with_reducible apply c_times) <;> walk_at "sz"))
local macro_rules | `(tactic| walk_at "call") => `(tactic| ((with_reducible apply c_plus) <;> walk_at "sz"))
theorem sc_row_turned : FnScope ["row", "part", "much"] ["row"] (defScope (top 26)) := ⟨rfl, rfl, rfl, by decide +kernel, rfl, by decide +kernel, by decide +kernel⟩
theorem d_row_turned (C : CT P w K mg base T) : Df P w K mg base "row_turned" 9 ["row"] (spF T K fTurned) := by
  refine df_of C (i := 17) (x := "row_turned") (N := ["row", "part", "much"]) (n := 2) rfl sc_row_turned (fun _ _ _ _ _ _ us hl => match us, hl with | [_], _ => rfl) ?_ rfl fun cdv A outer s H E fa hr => ⟨_, (pss_one (ps_ret (pe_callTy (call_tupleK K rfl) (by rfl) (C.free 16 _ rfl) (by decide +kernel) (pa_cons (pe_lc rfl sc_row_turned.nd (pi_revK K rfl (by rfl) (C.free 12 _ rfl) (pe_dfK (d_tuple_of C) rfl rfl rfl rfl rfl hr (by rfl) (pa_cons (pv 0) pa_nil))) (blkOk_by (own := [("part", 1), ("much", 2)]) (by kernel_rfl)) (fun _ _ _ _ _ => (pg_tupK K rfl (n := 2) rfl (pgs_cons (pg_name (i := 1) sc_row_turned.nd rfl (by first | exact Or.inl rfl | exact Or.inr rfl)) (pgs_cons (pg_name (i := 2) sc_row_turned.nd rfl (by first | exact Or.inl rfl | exact Or.inr rfl)) pgs_nil)))) (fun _ _ _ _ _ => pts_nil) (fun _ _ _ _ _ => (pe_tup (pa_cons (pv 1) (pa_cons (pe_dfK (d_times C) rfl rfl rfl rfl rfl hr (by rfl) (pa_cons (pv 2) (pa_cons (pe_cstK K rfl (by rfl) (C.cst 4 _ rfl)) pa_nil))) pa_nil))))) pa_nil)))), ?_⟩
  · rintro _ _ ⟨r, rfl, hl, hs, rfl⟩
    rfl
  · rintro _ _ ⟨r, rfl, hl, hs, rfl⟩
    have ec : rw_ (turnR r) = .tuple ((turnR r).map pr) := rfl
    rw [ec]
    refine std_ret (evd_cb (evds_cons (evf_lc (js := [1, 2]) ((turnR r).map pr) (itd_revT (ds := r.map pr) (by walk_at "ev")) (by decide) (by simp [turnR]) (by simp; omega) ?_).ev evds_nil) tuple_L)
    intro i d e hd he
    rw [← List.map_reverse, List.getElem?_map] at hd
    rw [turnR, List.map_map, List.getElem?_map] at he
    cases hr : r.reverse[i]? with
    | none => rw [hr] at hd; cases hd
    | some p =>
      rw [hr] at hd he
      cases hd; cases he
      have hp : Sm 4000 p.2 := hs p (List.mem_reverse.mp (List.mem_of_getElem? hr))
      have h1 := sm_neg1
      refine ⟨_, tgd_tup2 tgd_name tgd_name, ?_⟩
      have e2 : -p.2 = p.2 * -1 := by grind
      show EvD T K _ _ (.tuple [.int p.1, fr (-p.2)])
      rw [e2]
      walk_at "ev"
theorem sc_row_joined : FnScope ["row", "other"] ["row", "other"] (defScope (top 27)) := ⟨rfl, rfl, rfl, by decide +kernel, rfl, by decide +kernel, by decide +kernel⟩
theorem d_row_joined (C : CT P w K mg base T) : Df P w K mg base "row_joined" 9 ["row", "other"] (spF T K fJoined) := by
  refine df_of C (i := 18) (x := "row_joined") (N := ["row", "other"]) (n := 0) rfl sc_row_joined (fun _ _ _ _ _ _ us hl => match us, hl with | [_, _], _ => rfl) ?_ rfl fun cdv A outer s H E fa hr => ⟨_, (pss_one (ps_ret (pe_op (op_plusK K rfl) (pe_dfK (d_tuple_of C) rfl rfl rfl rfl rfl hr (by rfl) (pa_cons (pv 0) pa_nil)) (pe_dfK (d_tuple_of C) rfl rfl rfl rfl rfl hr (by rfl) (pa_cons (pv 1) pa_nil))))), ?_⟩
  · rintro _ _ ⟨r, s, rfl, hl, hs, rfl⟩
    rfl
  · rintro _ _ ⟨r, s, rfl, hl, hs, rfl⟩
    have h3 : (r.map pr).length + (s.map pr).length ≤ 100000 := by simp; omega
    show StD T K _ _ (.rt (.tuple ((r ++ s).map pr)))
    rw [List.map_append]
    exact std_ret (by walk_at "ev")
theorem sc_go_together : FnScope ["one", "two", "meets"] ["one", "two", "meets"] (defScope (top 28)) := ⟨rfl, rfl, rfl, by decide +kernel, rfl, by decide +kernel, by decide +kernel⟩
theorem d_go_together (C : CT P w K mg base T) : Df P w K mg base "go_together" 1 ["one", "two", "meets"] (spF T K fTogether) := by
  refine df_of C (i := 19) (x := "go_together") (N := ["one", "two", "meets"]) (n := 0) rfl sc_go_together (fun _ _ _ _ _ _ us hl => match us, hl with | [_, _, _], _ => rfl) ?_ rfl fun cdv A outer s H E fa hr => ⟨_, (pss_one (ps_ret (pe_cmpR (op_inK K rfl hr.units) (pe_tup (pa_cons (pe_callB (call_min2 rfl) (by rfl) (C.free 10 _ rfl) (by decide +kernel) (pa_cons (pv 0) (pa_cons (pv 1) pa_nil))) (pa_cons (pe_callB (call_max2 rfl) (by rfl) (C.free 9 _ rfl) (by decide +kernel) (pa_cons (pv 0) (pa_cons (pv 1) pa_nil))) pa_nil))) (pv 2) (by rfl)))), ?_⟩
  · rintro _ _ ⟨a, b, rfl, rfl⟩
    rfl
  · rintro _ _ ⟨a, b, rfl, rfl⟩
    exact std_ret (evd_op (by walk_at "ev") (by walk_at "ev") (in_none (by simp [PyData.canLay0, PyData.canLayAll0])))
end
end K37
namespace K37
open PySem PySem.Spec L2
local macro_rules | `(tactic| walk_at "sz") => `(tactic| first | assumption | decide | omega)
local macro_rules | `(tactic| walk_at "call") => `(tactic| fail "no call")
local macro_rules | `(tactic| walk_at "cb") => `(tactic| first
  | with_reducible exact gcd_D | with_reducible exact len_T | with_reducible exact len_L | with_reducible exact tuple_L | with_reducible exact tuple_T | with_reducible exact max_D | with_reducible exact min_D | with_reducible exact abs_D
  | with_reducible exact int_D | with_reducible exact int_B)
local macro_rules | `(tactic| walk_at "op") => `(tactic| first
  | with_reducible exact minus_int | with_reducible exact plus_int | ((with_reducible apply times_int); walk_at "sz") | ((with_reducible apply ix_tupD); exact rfl) | ((with_reducible apply ix_lstD); exact rfl)
  | with_reducible exact lt_intD | with_reducible exact le_intD | with_reducible exact gt_intD | with_reducible exact ge_intD
  | ((with_reducible apply eq_D) <;> first | exact rfl | exact fr_shaped _ | assumption) | ((with_reducible apply ne_D) <;> first | exact rfl | exact fr_shaped _ | assumption)
  | ((with_reducible apply fdiv_int); walk_at "sz") | ((with_reducible apply fmod_int); walk_at "sz")
  | ((with_reducible apply plus_tup); walk_at "sz") | ((with_reducible apply plus_lst); walk_at "sz"))
local macro_rules | `(tactic| walk_at "evs") => `(tactic| first
  | with_reducible exact evds_nil
  | ((with_reducible apply evds_cons); (· walk_at "ev"); (· walk_at "evs")))
local macro_rules | `(tactic| walk_at "ev") => `(tactic| first
  | assumption
  | ((with_reducible apply evd_var); exact rfl)
  | with_reducible exact evd_int | with_reducible exact evd_cst | with_reducible exact evd_non | with_reducible exact evd_bl
  | ((with_reducible apply evd_op); (· walk_at "ev"); (· walk_at "ev"); (· walk_at "op"))
  | ((with_reducible apply evd_un); (· walk_at "ev"); (· with_reducible exact neg_intD))
  | ((with_reducible apply evd_call); (· walk_at "evs"); (· walk_at "call"))
  | ((with_reducible apply evd_cb); (· walk_at "evs"); (· walk_at "cb"))
  | ((with_reducible apply evd_tup); (· walk_at "evs"); (· exact Nat.le_of_ble_eq_true rfl))
  | ((with_reducible apply evd_isN); walk_at "ev") | ((with_reducible apply evd_notN); walk_at "ev")
  | ((with_reducible apply evd_not); walk_at "ev"))
local macro_rules | `(tactic| walk_at "te") => `(tactic| first
  | ((with_reducible apply ted_test); walk_at "ev") | ((with_reducible apply ted_B); walk_at "ev") | ((with_reducible apply ted_not); walk_at "te"))

/-! ### sizes of rows -/
def RowQ (N : Nat) (r : Row) : Prop := r.length ≤ 60 ∧ ∀ p ∈ r, Bq 6 N p.2
theorem q_sm {N : Nat} {x : Rat} (h : Bq 6 N x) (hN : N < 2 ^ 64 := by decide) : Sm 4000 x := h.sm (by decide) (p4000 (by decide)) (p4000 hN)
theorem RowQ.sm {N : Nat} {r : Row} (h : RowQ N r) (hN : N < 2 ^ 64 := by decide) : SmR r := fun p hp => q_sm (h.2 p hp) hN
theorem push_q {N M : Nat} {s : Row} {p : Int × Rat} (h : ∀ q ∈ s, Bq 6 M q.2) (hp : Bq 6 N p.2) : ∀ q ∈ push s p, Bq 6 (M + N) q.2 := by
  have up : ∀ q ∈ s, Bq 6 (M + N) q.2 := fun q hq => (h q hq).mono (Nat.le_add_right _ _)
  have pp : Bq 6 (M + N) p.2 := hp.mono (Nat.le_add_left _ _)
  cases s with
  | nil =>
    rw [push_nil]
    split
    · intro q hq; cases hq
    · intro q hq; rw [List.mem_singleton.mp hq]; exact pp
  | cons q t =>
    rw [push_cons]
    split
    · split
      · exact fun u hu => up u (List.mem_cons_of_mem _ hu)
      · intro u hu
        cases hu with
        | head => exact (h q (by simp)).add (by decide) hp
        | tail _ hu => exact up u (List.mem_cons_of_mem _ hu)
    · split
      · exact up
      · intro u hu
        cases hu with
        | head => exact pp
        | tail _ hu => exact up u hu
theorem fold_q {N : Nat} : ∀ {r s : Row} {M : Nat}, (∀ q ∈ s, Bq 6 M q.2) → (∀ p ∈ r, Bq 6 N p.2) → ∀ q ∈ r.foldl push s, Bq 6 (M + N * r.length) q.2
  | [], s, M, h, _ => by simpa using h
  | p :: r, s, M, h, g => by
    have h1 := push_q h (g p (by simp))
    have := fold_q (r := r) h1 fun q hq => g q (List.mem_cons_of_mem _ hq)
    intro q hq
    refine (this q hq).mono ?_
    rw [List.length_cons, Nat.mul_succ]
    omega
theorem nf_q {N : Nat} {r : Row} (h : RowQ N r) : RowQ (N * 60) (nf r) := by
  refine ⟨Nat.le_trans (nf_len r) h.1, fun q hq => ?_⟩
  have := fold_q (s := []) (M := 0) (fun q hq => by cases hq) h.2 q (List.mem_reverse.mp hq)
  refine this.mono ?_
  rw [Nat.zero_add]
  exact Nat.mul_le_mul_left N h.1
/-! ### place_to_meet, shortened, normal_row, is_same -/
def placeD (r : Row) (p : Int) : PyData := match r.getLast? with
  | none => .none
  | some q => if q.1 = p then .int ((r.length - 1 : Nat) : Int) else .none
theorem place_flat (r : Row) (p : Int) : flat (placeD r p) = true := by
  unfold placeD
  split
  · rfl
  · split <;> rfl
def fPlace (ds : List PyData) (d : PyData) : Prop := ∃ (r : Row) (p : Int), ds = [.list (r.map pr), .int p, .tuple []] ∧ r.length ≤ 1000 ∧ d = placeD r p
def fShort (ds : List PyData) (d : PyData) : Prop := ∃ (r : Row) (N : Nat), ds = [rw_ r, .tuple []] ∧ RowQ N r ∧ N * 60 < 2 ^ 64 ∧ d = .list ((nf r).map pr)
def fNormal (ds : List PyData) (d : PyData) : Prop := ∃ (r : Row) (N : Nat), ds = [rw_ r] ∧ RowQ N r ∧ N * 60 < 2 ^ 64 ∧ d = rw_ (nf r)
section
variable {P : Program} {w : World} {K : PySem.W.Frag} {mg : Str → Option Value} {base : Heap} {T : Tb}
theorem c_together {a b : Int} : fTogether [.int a, .int b, .tuple []] (.bool false) := ⟨a, b, rfl, rfl⟩
local macro_rules | `(tactic| walk_at "call") => `(tactic| with_reducible exact c_together)
local macro_rules | `(tactic| walk_at "call") => `(tactic| ((with_reducible apply c_tuple_of_row); walk_at "sz"))
local macro_rules | `(tactic| walk_at "call") => `(tactic| ((with_reducible apply c_plus) <;> walk_at "sz"))
theorem map_last {r : Row} : (r.map pr).getLast? = r.getLast?.map pr := by rw [List.getLast?_map]
theorem eqv_int (a b : Int) : PyData.eqv (.int a) (.int b) = decide (a = b) := by
  simp only [PyData.eqv]
  by_cases h : a = b
  · subst h; simp
  · rw [decide_eq_false h]; exact beq_eq_false_iff_ne.mpr h
theorem sc_place_to_meet : FnScope ["pairs", "part", "meets", "place"] ["pairs", "part", "meets"] (defScope (top 29)) := ⟨rfl, rfl, rfl, by decide +kernel, rfl, by decide +kernel, by decide +kernel⟩
theorem d_place_to_meet (C : CT P w K mg base T) : Df P w K mg base "place_to_meet" 2 ["pairs", "part", "meets"] (spF T K fPlace) := by
  refine df_of C (i := 20) (x := "place_to_meet") (N := ["pairs", "part", "meets", "place"]) (n := 1) rfl sc_place_to_meet (fun _ _ _ _ _ _ us hl => match us, hl with | [_, _, _], _ => rfl) ?_ rfl fun cdv A outer s H E fa hr => ⟨_, (pss_cons (ps_for PassesOwn.never rfl (pi_revR (by rfl) (C.free 12 _ rfl) (prg_1 (by rfl) (C.free 11 _ rfl) (pe_callB (call_lenK K rfl) (by rfl) (C.free 7 _ rfl) (by decide +kernel) (pa_cons (pv 0) pa_nil)))) (pg_name (i := 3) sc_place_to_meet.nd rfl (by first | exact Or.inl rfl | exact Or.inr rfl)) (pss_cons (ps_if (pt_cmpR (op_eqK K rfl hr.units) (pe_ix (ix_seqK K rfl) (pe_ix (ix_seqK K rfl) (pv 0) (pv 3) (fun _ _ => rfl)) pe_int (fun _ _ => rfl)) (pv 1) (nomark _)) (pss_one (ps_ret (pv 3))) pss_nil)
  (pss_one (ps_if (pt_not (pt_val (pe_dfK (d_go_together C) rfl rfl rfl rfl rfl hr (by rfl) (pa_cons (pe_ix (ix_seqK K rfl) (pe_ix (ix_seqK K rfl) (pv 0) (pv 3) (fun _ _ => rfl)) pe_int (fun _ _ => rfl)) (pa_cons (pv 1) (pa_cons (pv 2) pa_nil)))))) (pss_one (ps_ret pe_non)) pss_nil))))
  (pss_one (ps_ret pe_non))), ?_⟩
  · rintro _ _ ⟨r, p, rfl, hl, rfl⟩
    rfl
  · rintro _ _ ⟨r, p, rfl, hl, rfl⟩
    have hlen : ((r.map pr).length : Int) ≤ 1000000 := by simp; omega
    have hi : ItD T K (iRevR (tRg1 (tCB (rLenS K) (tCons (tVar 0) tNil)))) [.dat (.list (r.map pr)), .dat (.int p), .dat (.tuple []), .any] (rngB ((r.map pr).length : Int).toNat) := itd_revR (by walk_at "ev") (by omega) hlen
    cases hr : r.getLast? with
    | none =>
      have : r = [] := List.getLast?_eq_none_iff.mp hr
      subst this
      have ep : placeD [] p = .none := rfl
      rw [ep]
      refine std_seq (ρ1 := [.dat (.list []), .dat (.int p), .dat (.tuple []), .any]) (std_for (js := [3]) (ρs := fun _ => [.dat (.list []), .dat (.int p), .dat (.tuple []), .any]) hi fun i d h => ?_) (std_ret (by walk_at "ev"))
      simp [rngB] at h
    | some q =>
      have hne : r ≠ [] := fun z => by subst z; cases hr
      have hpos := List.length_pos_iff.mpr hne
      have el : (r.map pr)[r.length - 1]? = some (pr q) := by
        rw [List.getElem?_map, ← List.getLast?_eq_getElem?, hr]; rfl
      have e0 : (((r.map pr).length : Int).toNat : Int) - 1 - ((0 : Nat) : Int) = ((r.length - 1 : Nat) : Int) := by simp; omega
      have ei : EvD T K (tOp (rIx K) (tVar 0) (tVar 3)) [.dat (.list (r.map pr)), .dat (.int p), .dat (.tuple []), .dat (.int ((r.length - 1 : Nat) : Int))] (pr q) := evd_op (evd_var rfl) (evd_var rfl) (ix_lstD (at_nat el))
      refine std_seqR (std_forR (js := [3]) (ρs := fun _ => [.dat (.list (r.map pr)), .dat (.int p), .dat (.tuple []), .any]) 0 (by simp [rngB]; omega) hi (fun i d hi => by omega) fun d hd => ⟨_, tgd_name, ?_⟩)
      obtain ⟨-, rfl⟩ : 0 < ((r.map pr).length : Int).toNat ∧ d = .int ((((r.map pr).length : Int).toNat : Int) - 1 - ((0 : Nat) : Int)) := by
        unfold rngB at hd
        rw [List.getElem?_map, List.getElem?_range (by simp; omega)] at hd
        exact ⟨by simp; omega, by cases hd; rfl⟩
      rw [e0]
      have ed : placeD r p = if q.1 = p then .int ((r.length - 1 : Nat) : Int) else .none := by unfold placeD; rw [hr]
      rw [ed]
      by_cases hq : q.1 = p
      · rw [if_pos hq]
        refine std_seqR (std_if (x := true) (TeD.is (by walk_at "te") ((eqv_int q.1 p).trans (decide_eq_true hq))) (fun _ => std_ret (by walk_at "ev")) fun h => by cases h)
      · rw [if_neg hq]
        refine std_seq (std_if (x := false) (TeD.is (by walk_at "te") ((eqv_int q.1 p).trans (decide_eq_false hq))) (fun h => by cases h) fun _ => std_next) ?_
        exact std_if (x := true) (TeD.is (x := !false) (by walk_at "te") rfl) (fun _ => std_ret (by walk_at "ev")) fun h => by cases h
theorem c_place {r : Row} {p : Int} (h : r.length ≤ 1000) : fPlace [.list (r.map pr), .int p, .tuple []] (placeD r p) := ⟨r, p, rfl, h, rfl⟩
theorem snoc_take {r : Row} {i : Nat} {p : Int × Rat} (h : r[i]? = some p) : stk (r.take (i + 1)) = push (stk (r.take i)) p := by
  rw [List.take_add_one, h]
  exact nf_snoc _ _
theorem take_q {N : Nat} {r : Row} (h : RowQ N r) (i : Nat) : RowQ N (r.take i) := ⟨Nat.le_trans (by simp; omega) h.1, fun p hp => h.2 p (List.mem_of_mem_take hp)⟩
theorem any_weak (a b c d e f g : Sl) : ∀ (i : Nat) (s : Sl), [a, b, c, Sl.any, .any, .any, .any][i]? = some s → s = .any ∨ [a, b, c, d, e, f, g][i]? = some s := fun i s h => by
  match i, h with
  | 0, h => exact .inr h
  | 1, h => exact .inr h
  | 2, h => exact .inr h
  | 3, h => exact .inl (Option.some.inj h).symm
  | 4, h => exact .inl (Option.some.inj h).symm
  | 5, h => exact .inl (Option.some.inj h).symm
  | 6, h => exact .inl (Option.some.inj h).symm
  | _ + 7, h => cases h
theorem sc_shortened : FnScope ["row", "meets", "pairs", "part", "much", "place", "sum_of"] ["row", "meets"] (defScope (top 30)) := ⟨rfl, rfl, rfl, by decide +kernel, rfl, by decide +kernel, by decide +kernel⟩
theorem d_shortened (C : CT P w K mg base T) : Df P w K mg base "shortened" 9 ["row", "meets"] (spF T K fShort) := by
  refine df_of C (i := 21) (x := "shortened") (N := ["row", "meets", "pairs", "part", "much", "place", "sum_of"]) (n := 5) rfl sc_shortened (fun _ _ _ _ _ _ us hl => match us, hl with | [_, _], _ => rfl) ?_ rfl fun cdv A outer s H E fa hr => ⟨_, (pss_cons (ps_set (i := 2) sc_shortened.nd rfl (by first | exact Or.inl rfl | exact Or.inr rfl) (pe_lst pa_nil))
  (pss_cons (ps_for PassesOwn.never rfl (pi_seqK K rfl (pe_dfK (d_tuple_of C) rfl rfl rfl rfl rfl hr (by rfl) (pa_cons (pv 0) pa_nil))) (pg_tupK K rfl (n := 2) rfl (pgs_cons (pg_name (i := 3) sc_shortened.nd rfl (by first | exact Or.inl rfl | exact Or.inr rfl)) (pgs_cons (pg_name (i := 4) sc_shortened.nd rfl (by first | exact Or.inl rfl | exact Or.inr rfl)) pgs_nil))) (pss_cons (ps_set (i := 5) sc_shortened.nd rfl (by first | exact Or.inl rfl | exact Or.inr rfl) (pe_dfK (d_place_to_meet C) rfl rfl rfl rfl rfl hr (by rfl) (pa_cons (pv 2) (pa_cons (pv 3) (pa_cons (pv 1) pa_nil)))))
  (pss_cons (ps_set (i := 6) sc_shortened.nd rfl (by first | exact Or.inl rfl | exact Or.inr rfl) (pe_ifExp (pt_cmp (pc_isN (pv 5))) (pv 4) (pe_dfK (d_plus C) rfl rfl rfl rfl rfl hr (by rfl) (pa_cons (pe_ix (ix_seqK K rfl) (pe_ix (ix_seqK K rfl) (pv 2) (pv 5) (fun _ _ => rfl)) pe_int (fun _ _ => rfl)) (pa_cons (pv 4) pa_nil)))))
  (pss_cons (ps_if (pt_cmp (pc_notN (pv 5))) (pss_one (ps_expr (pe_bmK K rfl PySem.F.plainAttrs_list PySem.F.slot_list_pop PySem.F.type_list_pop mt_popAt (pv 2) (pa_cons (pv 5) pa_nil)))) pss_nil)
  (pss_one (ps_if (pt_cmpR (op_neK K rfl hr.units) (pv 6) (pe_cstK K rfl (by rfl) (C.cst 1 _ rfl)) (nomark _)) (pss_one (ps_expr (pe_bmK K rfl PySem.F.plainAttrs_list PySem.F.slot_list_append PySem.F.type_list_append mt_append (pv 2) (pa_cons (pe_tup (pa_cons (pv 3) (pa_cons (pv 6) pa_nil))) pa_nil)))) pss_nil))))))
  (pss_one (ps_ret (pv 2))))), ?_⟩
  · rintro _ _ ⟨r, N, rfl, hq, hN, rfl⟩
    rfl
  · rintro _ _ ⟨r, N, rfl, hq, hN, rfl⟩
    have hl := hq.1
    have hl2 : r.length ≤ 1000 := by omega
    let ρs : Nat → List Sl := fun i => [.dat (rw_ r), .dat (.tuple []), .own ((stk (r.take i)).reverse.map pr), .any, .any, .any, .any]
    refine std_seq (ρ1 := ρs 0) (std_asgF (i := 2) (ds := []) (evf_lst evds_nil (Nat.zero_le _))) ?_
    have fin : ρs (r.map pr).length = [.dat (rw_ r), .dat (.tuple []), .own ((nf r).map pr), .any, .any, .any, .any] := by
      show [Sl.dat (rw_ r), .dat (.tuple []), .own ((stk (r.take (r.map pr).length)).reverse.map pr), .any, .any, .any, .any] = _
      rw [List.length_map, List.take_length]; rfl
    refine std_seq (ρ1 := ρs (r.map pr).length) (std_for (js := [3, 4]) ρs (itd_T (ds := r.map pr) (by walk_at "ev")) fun i d hd => ?_) ?_
    · rw [List.getElem?_map] at hd
      cases hr : r[i]? with
      | none => rw [hr] at hd; cases hd
      | some p =>
        rw [hr] at hd
        cases hd
        have hstep := snoc_take hr
        have hp : Bq 6 N p.2 := hq.2 p (List.mem_of_getElem? hr)
        have hps : Sm 4000 p.2 := q_sm hp (by omega)
        have hs := (nf_q (take_q hq i)).sm hN
        have hsl : (stk (r.take i)).length ≤ 60 := by
          have h1 := fold_len (r.take i) []
          have h2 := (take_q hq i).1
          unfold stk
          simp only [(List.length_nil)] at h1
          omega
        refine ⟨_, tgd_tup2 tgd_name tgd_name, ?_⟩
        show StD T K _ _ (.nx (ρs (i + 1)))
        have enx : ρs (i + 1) = [.dat (rw_ r), .dat (.tuple []), .own ((push (stk (r.take i)) p).reverse.map pr), .any, .any, .any, .any] := by
          show [Sl.dat (rw_ r), .dat (.tuple []), .own ((stk (r.take (i + 1))).reverse.map pr), .any, .any, .any, .any] = _
          rw [hstep]
        rw [enx]
        show StD T K _ [.dat (rw_ r), .dat (.tuple []), .own ((stk (r.take i)).reverse.map pr), .dat (.int p.1), .dat (fr p.2), .any, .any] _
        have hsm : ∀ q ∈ stk (r.take i), Sm 4000 q.2 := fun q hq2 => hs q (List.mem_reverse.mpr hq2)
        generalize stk (r.take i) = s at *
        -- the last step: append what is not none
        have last : ∀ (u : Row) (y : Rat) (d : PyData) (tt : TE) , u.length ≤ 60 → StD T K (tIfS (tTest (tOp (rNeD K) (tVar 6) (tCst K (fr 0)))) (tDrop (tBM K "list" rAppend (tVar 2) (tCons (tTup (tCons (tVar 3) (tCons (tVar 6) tNil))) tNil))) tNext) [.dat (rw_ r), .dat (.tuple []), .own (u.reverse.map pr), .dat (.int p.1), .dat (fr p.2), .dat d, .dat (fr y)]
            (.nx [.dat (rw_ r), .dat (.tuple []), .own ((if y = 0 then u else (p.1, y) :: u).reverse.map pr), .any, .any, .any, .any]) := fun u y d tt hu => by
          by_cases hy : y = 0
          · rw [if_pos hy]
            refine std_weakN (ρ1 := [.dat (rw_ r), .dat (.tuple []), .own (u.reverse.map pr), .dat (.int p.1), .dat (fr p.2), .dat d, .dat (fr y)]) (std_if (x := false) (TeD.is (by walk_at "te") (by rw [fr_eqv, decide_eq_true hy]; rfl)) (fun h => by cases h) fun _ => std_next) rfl ?_
            exact any_weak _ _ _ _ _ _ _
          · rw [if_neg hy]
            refine std_weakN (ρ1 := [.dat (rw_ r), .dat (.tuple []), .own (u.reverse.map pr ++ [.tuple [.int p.1, fr y]]), .dat (.int p.1), .dat (fr p.2), .dat d, .dat (fr y)]) (std_if (x := true) (TeD.is (by walk_at "te") (by rw [fr_eqv, decide_eq_false hy]; rfl)) (fun _ => std_app rfl (by walk_at "ev") (by simp; omega)) fun h => by cases h) rfl ?_
            rw [List.reverse_cons, List.map_append]
            exact any_weak _ _ _ _ _ _ _
        have ask : ∀ d, placeD s.reverse p.1 = d → StD T K (tAsg (tCall (spF T K fPlace) [] E0 (tCons (tVar 2) (tCons (tVar 3) (tCons (tVar 1) tNil)))) (gName 5)) [.dat (rw_ r), .dat (.tuple []), .own (s.reverse.map pr), .dat (.int p.1), .dat (fr p.2), .any, .any]
            (.nx [.dat (rw_ r), .dat (.tuple []), .own (s.reverse.map pr), .dat (.int p.1), .dat (fr p.2), .dat d, .any]) := fun d hd => by
          subst hd
          exact std_asg (evd_callO rfl (by walk_at "evs") (c_place (by simp; omega)) (place_flat _ _))
        have two : (placeD s.reverse p.1 = .none ∧ push s p = (if p.2 = 0 then s else (p.1, p.2) :: s)) ∨ ∃ q t, s = q :: t ∧ q.1 = p.1 := by
          cases s with
          | nil => exact .inl ⟨rfl, push_nil p⟩
          | cons q t =>
            by_cases e : q.1 = p.1
            · exact .inr ⟨q, t, rfl, e⟩
            · have hg : (q :: t).reverse.getLast? = some q := by simp
              exact .inl ⟨by unfold placeD; rw [hg]; simp [e], by rw [push_cons, if_neg e]⟩
        rcases two with ⟨h1, h2⟩ | ⟨q, t, rfl, e⟩
        · rw [h2]
          refine std_seq (ask _ h1) ?_
          refine std_seq (std_asg (d := fr p.2) (evd_if (x := true) (TeD.is (x := isNo .none) (by walk_at "te") rfl) (fun _ => by walk_at "ev") fun h => by cases h)) ?_
          refine std_seq (std_if (x := false) (TeD.is (x := !isNo .none) (by walk_at "te") rfl) (fun h => by cases h) fun _ => std_next) ?_
          exact last s p.2 .none (tVar 0) hsl
        · have hg : (q :: t).reverse.getLast? = some q := by simp
          have hq3 := hsm q (by simp)
          have hpd : placeD (q :: t).reverse p.1 = .int ((t.length : Nat) : Int) := by
            unfold placeD; rw [hg]; simp [e]
          rw [push_cons, if_pos e]
          have ex : ((q :: t).reverse.map pr)[t.length]? = some (pr q) := by simp
          have eix : EvD T K (tOp (rIx K) (tVar 2) (tVar 5)) [.dat (rw_ r), .dat (.tuple []), .own ((q :: t).reverse.map pr), .dat (.int p.1), .dat (fr p.2), .dat (.int ((t.length : Nat) : Int)), .any] (pr q) := evd_ixOwn rfl (evd_var rfl) (at_nat ex)
          refine std_seq (ask _ hpd) ?_
          refine std_seq (std_asg (d := fr (q.2 + p.2)) (evd_if (x := false) (TeD.is (x := isNo (.int ((t.length : Nat) : Int))) (by walk_at "te") rfl) (fun h => by cases h) fun _ => by walk_at "ev")) ?_
          have er : ((q :: t).reverse.map pr).eraseIdx t.length = t.reverse.map pr := by
            rw [List.reverse_cons, List.map_append, List.eraseIdx_append_of_length_le (by simp)]; simp
          refine std_seq (ρ1 := [.dat (rw_ r), .dat (.tuple []), .own (t.reverse.map pr), .dat (.int p.1), .dat (fr p.2), .dat (.int ((t.length : Nat) : Int)), .dat (fr (q.2 + p.2))]) (std_if (x := true) (TeD.is (x := !isNo (.int ((t.length : Nat) : Int))) (by walk_at "te") rfl) (fun _ => ?_) fun h => by cases h) ?_
          · rw [← er]
            exact std_popAt rfl (evd_var rfl) (by simp) (by simp at hsl ⊢; omega)
          · exact last t (q.2 + p.2) _ (tVar 0) (by simp at hsl ⊢; omega)
    · rw [fin]
      exact std_share (i := 2) rfl (std_ret (evd_var rfl))
theorem c_short {r : Row} {N : Nat} (h : RowQ N r) (h2 : N * 60 < 2 ^ 64) : fShort [rw_ r, .tuple []] (.list ((nf r).map pr)) := ⟨r, N, rfl, h, h2, rfl⟩
theorem sc_normal_row : FnScope ["row"] ["row"] (defScope (top 31)) := ⟨rfl, rfl, rfl, by decide +kernel, rfl, by decide +kernel, by decide +kernel⟩
theorem d_normal_row (C : CT P w K mg base T) : Df P w K mg base "normal_row" 10 ["row"] (spF T K fNormal) := by
  refine df_of C (i := 22) (x := "normal_row") (N := ["row"]) (n := 0) rfl sc_normal_row (fun _ _ _ _ _ _ us hl => match us, hl with | [_], _ => rfl) ?_ rfl fun cdv A outer s H E fa hr => ⟨_, (pss_one (ps_ret (pe_callTy (call_tupleK K rfl) (by rfl) (C.free 16 _ rfl) (by decide +kernel) (pa_cons (pe_dfK (d_shortened C) rfl rfl rfl rfl rfl hr (by rfl) (pa_cons (pv 0) (pa_cons (pe_tup pa_nil) pa_nil))) pa_nil)))), ?_⟩
  · rintro _ _ ⟨r, N, rfl, hq, hN, rfl⟩
    rfl
  · rintro _ _ ⟨r, N, rfl, hq, hN, rfl⟩
    exact std_ret (evd_cb (evds_cons (evd_call (by walk_at "evs") (c_short hq hN)) evds_nil) tuple_L)
theorem c_normal {r : Row} {N : Nat} (h : RowQ N r) (h2 : N * 60 < 2 ^ 64) : fNormal [rw_ r] (rw_ (nf r)) := ⟨r, N, rfl, h, h2, rfl⟩
def fSame (ds : List PyData) (d : PyData) : Prop := ∃ (r s : Row) (N : Nat), ds = [rw_ r, rw_ s] ∧ RowQ N r ∧ RowQ N s ∧ N * 60 < 2 ^ 64 ∧ d = .bool (decide (nf r = nf s))
theorem pr_eqv (p q : Int × Rat) : PyData.eqv (pr p) (pr q) = decide (p = q) := by
  show (PyData.eqv (.int p.1) (.int q.1) && (PyData.eqv (fr p.2) (fr q.2) && true)) = _
  rw [eqv_int, fr_eqv, Bool.and_true, ← Bool.decide_and]
  exact decide_eq_decide.mpr ⟨fun h => Prod.ext h.1 h.2, fun h => by rw [h]; exact ⟨rfl, rfl⟩⟩
theorem eqvAll_map {α : Type} [DecidableEq α] (f : α → PyData) (h : ∀ x y, PyData.eqv (f x) (f y) = decide (x = y)) : ∀ xs ys : List α, PyData.eqvAll (xs.map f) (ys.map f) = decide (xs = ys)
  | [], [] => rfl
  | [], y :: ys => rfl
  | x :: xs, [] => rfl
  | x :: xs, y :: ys => by
    show (PyData.eqv (f x) (f y) && PyData.eqvAll (xs.map f) (ys.map f)) = _
    rw [h, eqvAll_map f h xs ys, ← Bool.decide_and]
    exact decide_eq_decide.mpr ⟨fun h => by rw [h.1, h.2], fun h => by injection h with a b; exact ⟨a, b⟩⟩
theorem row_eqv (r s : Row) : PyData.eqv (rw_ r) (rw_ s) = decide (r = s) := eqvAll_map pr pr_eqv r s
theorem lay0_map {α : Type} (f : α → PyData) (h : ∀ x, (f x).canLay0 = true) : ∀ xs : List α, PyData.canLayAll0 (xs.map f) = true
  | [] => rfl
  | x :: xs => by
    show ((f x).canLay0 && PyData.canLayAll0 (xs.map f)) = true
    rw [h, lay0_map f h xs]; rfl
theorem depth_map {α : Type} (f : α → PyData) {k : Nat} (h : ∀ x, (f x).depth ≤ k) : ∀ xs : List α, PyData.depthAll (xs.map f) ≤ k
  | [] => Nat.zero_le _
  | x :: xs => by
    show max (f x).depth (PyData.depthAll (xs.map f)) ≤ k
    have := h x
    have := depth_map f h xs
    omega
theorem row_shaped (r : Row) : SeqAt.shaped (rw_ r) = true := by
  have h1 : PyData.canLayAll0 (r.map pr) = true := lay0_map pr (fun x => by simp [pr, fr, PyData.canLay0, PyData.canLayAll0]) r
  have h2 : PyData.depthAll (r.map pr) ≤ 2 := depth_map pr (fun x => by simp [pr, fr, PyData.depth, PyData.depthAll]) r
  simp [SeqAt.shaped, rw_, PyData.canLay0, PyData.depth, h1]
  omega
local macro_rules | `(tactic| walk_at "call") => `(tactic| ((with_reducible apply c_normal) <;> walk_at "sz"))
theorem sc_is_same : FnScope ["row", "other"] ["row", "other"] (defScope (top 32)) := ⟨rfl, rfl, rfl, by decide +kernel, rfl, by decide +kernel, by decide +kernel⟩
theorem d_is_same (C : CT P w K mg base T) : Df P w K mg base "is_same" 11 ["row", "other"] (spF T K fSame) := by
  refine df_of C (i := 23) (x := "is_same") (N := ["row", "other"]) (n := 0) rfl sc_is_same (fun _ _ _ _ _ _ us hl => match us, hl with | [_, _], _ => rfl) ?_ rfl fun cdv A outer s H E fa hr => ⟨_, (pss_one (ps_ret (pe_cmpR (op_eqK K rfl hr.units) (pe_dfK (d_normal_row C) rfl rfl rfl rfl rfl hr (by rfl) (pa_cons (pv 0) pa_nil)) (pe_dfK (d_normal_row C) rfl rfl rfl rfl rfl hr (by rfl) (pa_cons (pv 1) pa_nil)) (nomark _)))), ?_⟩
  · rintro _ _ ⟨r, s, N, rfl, hr, hs, hN, rfl⟩
    rfl
  · rintro _ _ ⟨r, s, N, rfl, hr, hs, hN, rfl⟩
    rw [← row_eqv]
    have h1 := row_shaped (nf r)
    have h2 := row_shaped (nf s)
    exact std_ret (by walk_at "ev")
end
end K37
namespace K37
open PySem PySem.Spec L2
local macro_rules | `(tactic| walk_at "sz") => `(tactic| first | assumption | decide | omega)
local macro_rules | `(tactic| walk_at "call") => `(tactic| fail "no call")
local macro_rules | `(tactic| walk_at "cb") => `(tactic| first
  | with_reducible exact gcd_D | with_reducible exact len_T | with_reducible exact len_L | with_reducible exact tuple_L | with_reducible exact tuple_T | with_reducible exact max_D | with_reducible exact min_D | with_reducible exact abs_D
  | with_reducible exact int_D | with_reducible exact int_B)
local macro_rules | `(tactic| walk_at "op") => `(tactic| first
  | with_reducible exact minus_int | with_reducible exact plus_int | ((with_reducible apply times_int); walk_at "sz") | ((with_reducible apply ix_tupD); exact rfl) | ((with_reducible apply ix_lstD); exact rfl)
  | with_reducible exact lt_intD | with_reducible exact le_intD | with_reducible exact gt_intD | with_reducible exact ge_intD
  | ((with_reducible apply eq_D) <;> first | exact rfl | exact fr_shaped _ | assumption) | ((with_reducible apply ne_D) <;> first | exact rfl | exact fr_shaped _ | assumption)
  | ((with_reducible apply fdiv_int); walk_at "sz") | ((with_reducible apply fmod_int); walk_at "sz")
  | ((with_reducible apply plus_tup); walk_at "sz") | ((with_reducible apply plus_lst); walk_at "sz"))
local macro_rules | `(tactic| walk_at "evs") => `(tactic| first
  | with_reducible exact evds_nil
  | ((with_reducible apply evds_cons); (· walk_at "ev"); (· walk_at "evs")))
local macro_rules | `(tactic| walk_at "ev") => `(tactic| first
  | assumption
  | ((with_reducible apply evd_var); exact rfl)
  | with_reducible exact evd_int | with_reducible exact evd_cst | with_reducible exact evd_non | with_reducible exact evd_bl
  | ((with_reducible apply evd_op); (· walk_at "ev"); (· walk_at "ev"); (· walk_at "op"))
  | ((with_reducible apply evd_un); (· walk_at "ev"); (· with_reducible exact neg_intD))
  | ((with_reducible apply evd_call); (· walk_at "evs"); (· walk_at "call"))
  | ((with_reducible apply evd_cb); (· walk_at "evs"); (· walk_at "cb"))
  | ((with_reducible apply evd_tup); (· walk_at "evs"); (· exact Nat.le_of_ble_eq_true rfl))
  | ((with_reducible apply evd_isN); walk_at "ev") | ((with_reducible apply evd_notN); walk_at "ev")
  | ((with_reducible apply evd_not); walk_at "ev"))
local macro_rules | `(tactic| walk_at "te") => `(tactic| first
  | ((with_reducible apply ted_test); walk_at "ev") | ((with_reducible apply ted_B); walk_at "ev") | ((with_reducible apply ted_not); walk_at "te"))

/-! ### letters -/
def longL (w : List Int) (n : Nat) : List Int := (List.range n).map fun i => w.getD (i % w.length) 0
def stripR (k : Int) (l : List Int) : List Int := l.dropWhile fun x => decide (x = k - 1)
def nextL (k : Int) (n : Nat) (w : List Int) : Option (List Int) := match stripR k (longL w n).reverse with
  | [] => none
  | x :: t => some (t.reverse ++ [x + 1])
def genL (k : Int) (n : Nat) : Nat → List Int → List (List Int)
  | 0, _ => []
  | f + 1, w => w :: match nextL k n w with
    | none => []
    | some v => genL k n f v
def doneL (k : Int) (n : Nat) : Nat → List Int → Bool
  | 0, _ => false
  | f + 1, w => match nextL k n w with
    | none => true
    | some v => doneL k n f v
def optW : Option (List Int) → PyData
  | none => .none
  | some w => intsV w
def fNextL (ds : List PyData) (d : PyData) : Prop := ∃ (w : List Int) (k : Int) (n : Nat), ds = [intsV w, .int k, .int n] ∧ w ≠ [] ∧ n ≤ 100 ∧ d = optW (nextL k n w)
def fLyn (ds : List PyData) (d : PyData) : Prop := ∃ (k : Int) (n f : Nat), ds = [.int k, .int n] ∧ doneL k n f [0] = true ∧ n ≤ 100 ∧ f ≤ 900 ∧ d = .list (((genL k n f [0]).mergeSort (PySem.W.dataLe false keyW)).map intsV)
section
variable {P : Program} {w : World} {K : PySem.W.Frag} {mg : Str → Option Value} {base : Heap} {T : Tb}
theorem sc_next_lyndon : FnScope ["word", "many", "power", "long", "at"] ["word", "many", "power"] (defScope (top 34)) := ⟨rfl, rfl, rfl, by decide +kernel, rfl, by decide +kernel, by decide +kernel⟩
theorem d_next_lyndon (C : CT P w K mg base T) : Df P w K mg base "next_lyndon" 1 ["word", "many", "power"] (spF T K fNextL) := by
  refine df_of C (i := 24) (x := "next_lyndon") (N := ["word", "many", "power", "long", "at"]) (n := 2) rfl sc_next_lyndon (fun _ _ _ _ _ _ us hl => match us, hl with | [_, _, _], _ => rfl) ?_ rfl fun cdv A outer s H E fa hr => ⟨_, (pss_cons (ps_setLc (i := 3) rfl sc_next_lyndon.nd rfl rfl (sw_true rfl rfl rfl (by kernel_rfl)) (pi_range1 (by rfl) (C.free 11 _ rfl) (pa_cons (pv 2) pa_nil)) (blkOk_by (own := [("at", 4)]) (by kernel_rfl)) (fun _ _ _ _ _ => (pg_name (i := 4) sc_next_lyndon.nd rfl (by first | exact Or.inl rfl | exact Or.inr rfl))) (fun _ _ _ _ _ => pts_nil) (fun _ _ _ _ _ => (pe_ix (ix_seqK K rfl) (pv 0) (pe_op op_modN (pv 4) (pe_callB (call_lenK K rfl) (by rfl) (C.free 7 _ rfl) (by decide +kernel) (pa_cons (pv 0) pa_nil))) (fun _ _ => rfl))))
  (pss_cons (ps_while PassesOwn.never (PW.pt (pw_and (pt_cmpR op_gt (pe_callB (call_lenK K rfl) (by rfl) (C.free 7 _ rfl) (by decide +kernel) (pa_cons (pv 3) pa_nil)) pe_int (nomark _)) (pw_and1 (pt_cmpR (op_eqK K rfl hr.units) (pe_ix (ix_seqK K rfl) (pv 3) (pe_un un_neg pe_int) (fun _ _ => rfl)) (pe_op op_sub (pv 1) pe_int) (nomark _))))) (pss_one (ps_expr (pe_bm0K K rfl PySem.F.plainAttrs_list PySem.F.slot_list_pop PySem.F.type_list_pop mt_pop (pv 3)))))
  (pss_cons (ps_if (pt_cmpR (op_eqK K rfl hr.units) (pe_callB (call_lenK K rfl) (by rfl) (C.free 7 _ rfl) (by decide +kernel) (pa_cons (pv 3) pa_nil)) pe_int (nomark _)) (pss_one (ps_ret pe_non)) pss_nil)
  (pss_one (ps_ret (pe_op (op_plusK K rfl) (pe_callTy (call_tupleK K rfl) (by rfl) (C.free 16 _ rfl) (by decide +kernel) (pa_cons (pe_slice (sl_seqK K rfl) (pv 3) po_none (po_some (pe_un un_neg pe_int))) pa_nil)) (pe_tup (pa_cons (pe_op (op_plusK K rfl) (pe_ix (ix_seqK K rfl) (pv 3) (pe_un un_neg pe_int) (fun _ _ => rfl)) pe_int) pa_nil)))))))), ?_⟩
  · rintro _ _ ⟨u, k, n, rfl, hu, hn, rfl⟩
    rfl
  · rintro _ _ ⟨u, k, n, rfl, hu, hn, rfl⟩
    have hul : u.length ≠ 0 := fun z => hu (List.eq_nil_of_length_eq_zero z)
    have hn2 : (n : Int) ≤ 1000000 := by omega
    refine std_seq (ρ1 := [.dat (intsV u), .dat (.int k), .dat (.int n), .own ((longL u n).map .int), .any]) (std_asgF (evf_lc (js := [4]) ((longL u n).map .int) (itd_rng1 (n := (n : Int)) (by walk_at "evs") (by omega) hn2) (by decide) ?_ ?_ ?_)) ?_
    · simp [longL, rngD]
    · simp [rngD]; omega
    · intro i d e hd he
      obtain ⟨hi, rfl⟩ := rngD_get hd
      have hi : i < n := by omega
      have e2 : e = .int (u.getD (i % u.length) 0) := by
        unfold longL at he
        rw [List.getElem?_map, List.getElem?_map, List.getElem?_range hi] at he
        cases he; rfl
      subst e2
      refine ⟨_, tgd_name, ?_⟩
      have hlt : i % u.length < u.length := Nat.mod_lt _ (by omega)
      have ei : (u.map PyData.int)[i % u.length]? = some (.int (u.getD (i % u.length) 0)) := by
        rw [List.getElem?_map, List.getD_eq_getElem?_getD, List.getElem?_eq_getElem hlt]; rfl
      have em : (0 + ((i : Nat) : Int)).fmod ((u.map PyData.int).length : Int) = ((i % u.length : Nat) : Int) := by
        rw [List.length_map, Int.zero_add, Int.fmod_eq_emod_of_nonneg _ (by omega)]; rfl
      have hne : ((u.map PyData.int).length : Int) ≠ 0 := by rw [List.length_map]; omega
      refine evd_op (evd_var rfl) (evd_op (b := .int ((u.map PyData.int).length : Int)) (c := .int ((i % u.length : Nat) : Int)) (evd_var rfl) (by walk_at "ev") ?_) (ix_tupD (at_nat ei))
      rw [← em]
      exact fmod_int hne
    -- the loop
    have loop : ∀ (l : List Int), l.length ≤ 100 → Wh T K (tAnd (tTest (tOp (rI0 fun i j => .bl (decide (j < i))) (tCB (rLenS K) (tCons (tVar 3) tNil)) (tC (.int 0)))) (tTest (tOp (rEqD K) (tOp (rIx K) (tVar 3) (tUn (rU fun i => .int (-i)) (tC (.int 1)))) (tOp (rI0 fun i j => .int (i - j)) (tVar 1) (tC (.int 1)))))) (tDrop (tBM0 K "list" rPop (tVar 3))) [.dat (intsV u), .dat (.int k), .dat (.int n), .own (l.reverse.map .int), .any] [.dat (intsV u), .dat (.int k), .dat (.int n), .own ((stripR k l).reverse.map .int), .any] := fun l => by
      induction l with
      | nil =>
        intro _
        refine .stop (TeD.is (x := decide ((0 : Int) < (([] : List PyData).length : Int)) && true) (ted_and (ted_test (evd_op (evd_lenOwn (i := 3) rfl) evd_int gt_intD)) fun h => absurd h (by decide)) rfl)
      | cons x l ih =>
        intro hl
        rw [List.length_cons] at hl
        have ex : ((x :: l).reverse.map PyData.int).getLast? = some (.int x) := by simp
        have t1 : TeD T K (tTest (tOp (rI0 fun i j => .bl (decide (j < i))) (tCB (rLenS K) (tCons (tVar 3) tNil)) (tC (.int 0)))) [.dat (intsV u), .dat (.int k), .dat (.int n), .own ((x :: l).reverse.map .int), .any] true :=
          TeD.is (ted_test (evd_op (evd_lenOwn rfl) evd_int gt_intD)) (by simp)
        have ec : stripR k (x :: l) = if x = k - 1 then stripR k l else x :: l := by
          unfold stripR; rw [List.dropWhile_cons]; simp
        rw [ec]
        by_cases e : x = k - 1
        · rw [if_pos e]
          refine .more (ρ1 := [.dat (intsV u), .dat (.int k), .dat (.int n), .own (l.reverse.map .int), .any]) (TeD.is (x := true && true) (ted_and t1 fun _ => ?_) rfl) ?_ (ih (by omega))
          · exact TeD.is (ted_test (evd_op (evd_ixOwn (i := 3) rfl (evd_un evd_int neg_intD) (at_last ex)) (evd_op (evd_var (i := 1) rfl) evd_int minus_int) (eq_D rfl rfl))) (by rw [eqv_int]; exact decide_eq_true e)
          · have ed : ((x :: l).reverse.map PyData.int).dropLast = l.reverse.map .int := by simp
            have hne : ((x :: l).reverse.map PyData.int) ≠ [] := by simp
            have := std_pop (T := T) (K := K) (ρ := [.dat (intsV u), .dat (.int k), .dat (.int n), .own ((x :: l).reverse.map .int), .any]) (i := 3) rfl hne
            rw [ed] at this
            exact this
        · rw [if_neg e]
          refine .stop (TeD.is (x := true && false) (ted_and t1 fun _ => ?_) rfl)
          exact TeD.is (ted_test (evd_op (evd_ixOwn (i := 3) rfl (evd_un evd_int neg_intD) (at_last ex)) (evd_op (evd_var (i := 1) rfl) evd_int minus_int) (eq_D rfl rfl))) (by rw [eqv_int]; exact decide_eq_false e)
    have hlong : (longL u n).length = n := by simp [longL]
    have lp := loop (longL u n).reverse (by rw [List.length_reverse, hlong]; exact hn)
    rw [List.reverse_reverse] at lp
    refine std_seq (std_wh lp) ?_
    refine std_share (i := 3) rfl ?_
    cases hs : stripR k (longL u n).reverse with
    | nil =>
      have e0 : nextL k n u = none := by unfold nextL; rw [hs]
      rw [e0]
      refine std_seqR (std_if (x := true) (TeD.is (x := PyData.eqv (.int 0) (.int 0)) ?_ rfl) (fun _ => std_ret evd_non) fun h => by cases h)
      exact ted_test (evd_op (evd_cb (evds_cons (evd_var rfl) evds_nil) len_L) evd_int (eq_D rfl rfl))
    | cons x t =>
      have e0 : nextL k n u = some (t.reverse ++ [x + 1]) := by unfold nextL; rw [hs]
      rw [e0]
      have hx : (x :: t).length ≤ 100 := by
        have h1 := (List.dropWhile_sublist (fun x => decide (x = k - 1)) (l := (longL u n).reverse)).length_le
        rw [List.length_reverse, hlong] at h1
        have : (stripR k (longL u n).reverse).length ≤ n := h1
        rw [hs] at this
        omega
      have nz : PyData.eqv (.int (((x :: t).reverse.map PyData.int).length : Int)) (.int 0) = false := by
        rw [eqv_int]; exact decide_eq_false (by simp; omega)
      refine std_seq (std_if (x := false) (TeD.is (ted_test (evd_op (evd_cb (evds_cons (evd_var rfl) evds_nil) len_L) evd_int (eq_D rfl rfl))) nz) (fun h => by cases h) fun _ => std_next) ?_
      have ex : ((x :: t).reverse.map PyData.int).getLast? = some (.int x) := by simp
      have ec : cutD ((x :: t).reverse.map PyData.int) none (some (-1)) = t.reverse.map .int := by
        unfold cutD
        have h1 : HT.sIx ((x :: t).reverse.map PyData.int).length 0 none = 0 := rfl
        have h2 : HT.sIx ((x :: t).reverse.map PyData.int).length ((x :: t).reverse.map PyData.int).length (some (-1)) = t.length := by
          unfold HT.sIx
          simp
          omega
        rw [h1, h2]
        simp
      refine std_ret (EvD.is (evd_op (b := .tuple [.int (x + 1)]) (evd_cb (evds_cons (evf_slL (evd_var rfl) evo_none (evo_some (evd_un evd_int neg_intD))).ev evds_nil) tuple_L) (evd_tup (evds_cons (evd_op (evd_op (evd_var rfl) (evd_un evd_int neg_intD) (ix_lstD (at_last ex))) evd_int plus_int) evds_nil) (Nat.le_of_ble_eq_true rfl)) (plus_tup ?_)) ?_)
      · rw [ec]; simp at hx ⊢; omega
      · rw [ec]
        show PyData.tuple (t.reverse.map PyData.int ++ [PyData.int (x + 1)]) = PyData.tuple ((t.reverse ++ [x + 1]).map PyData.int)
        rw [List.map_append]; rfl
theorem c_next {u : List Int} {k : Int} {n : Nat} (h1 : u ≠ []) (h2 : n ≤ 100) : fNextL [intsV u, .int k, .int n] (optW (nextL k n u)) := ⟨u, k, n, rfl, h1, h2, rfl⟩
theorem next_ne {k : Int} {n : Nat} {u v : List Int} (h : nextL k n u = some v) : v ≠ [] := by
  unfold nextL at h
  split at h
  · cases h
  · cases h; simp
theorem sc_lyndon_words : FnScope ["many", "power", "found", "word"] ["many", "power"] (defScope (top 35)) := ⟨rfl, rfl, rfl, by decide +kernel, rfl, by decide +kernel, by decide +kernel⟩
theorem d_lyndon_words (C : CT P w K mg base T) : Df P w K mg base "lyndon_words" 6 ["many", "power"] (spF T K fLyn) := by
  refine df_ofL C (i := 25) (x := "lyndon_words") (N := ["many", "power", "found", "word"]) (n := 2) rfl rfl sc_lyndon_words (fun _ _ _ _ _ _ us hl => match us, hl with | [_, _], _ => rfl) ?_ rfl fun c tb TB hT A outer s H E fa hr => ⟨_, (pss_cons (ps_par (i := 2) (j := 3) rfl sc_lyndon_words.nd rfl rfl (by decide) rfl rfl (pa_cons (pe_lst pa_nil) (pa_cons (pe_tup (pa_cons pe_int pa_nil)) pa_nil)) (by rfl))
  (pss_cons (ps_while PassesOwn.never (pt_cmp (pc_notN (pv 3))) (pss_cons (ps_expr (pe_bmK K rfl PySem.F.plainAttrs_list PySem.F.slot_list_append PySem.F.type_list_append mt_append (pv 2) (pa_cons (pv 3) pa_nil)))
  (pss_one (ps_set (i := 3) sc_lyndon_words.nd rfl (by first | exact Or.inl rfl | exact Or.inr rfl) (pe_dfK (d_next_lyndon C) rfl rfl rfl rfl rfl hr (by rfl) (pa_cons (pv 3) (pa_cons (pv 0) (pa_cons (pv 1) pa_nil))))))))
  (pss_one (ps_ret (pe_sortLam (q := ("lyndon_words.<locals>.<lambda>" : Str)) K rfl (by exact ⟨⟨_, _, _, _, _, _, rfl⟩, ⟨rfl, rfl, rfl, by decide +kernel, rfl, by decide +kernel, by decide +kernel⟩, by decide +kernel, by decide +kernel, fun _ => rfl, fun _ _ _ _ _ => rfl⟩) TB rfl (by kernel_rfl) hr rfl (by rfl) (C.free 14 _ rfl) (C.free 7 _ rfl) (pv 2)))))), ?_⟩
  · rintro _ _ ⟨k, n, f, rfl, _⟩
    rfl
  · rintro _ _ ⟨k, n, f, rfl, hf, hn, hf2, rfl⟩
    subst hT
    have loop : ∀ (f : Nat) (v : List Int) (acc : List (List Int)), v ≠ [] → doneL k n f v = true → acc.length + f ≤ 900 → Wh [(tb, ("lyndon_words.<locals>.<lambda>" : Str))] K (tB (tNotN (tVar 3))) (tSeq (tDrop (tBM K "list" rAppend (tVar 2) (tCons (tVar 3) tNil))) (tAsg (tCall (spF [(tb, ("lyndon_words.<locals>.<lambda>" : Str))] K fNextL) [] E0 (tCons (tVar 3) (tCons (tVar 0) (tCons (tVar 1) tNil)))) (gName 3))) [.dat (.int k), .dat (.int n), .own (acc.map intsV), .dat (intsV v)] [.dat (.int k), .dat (.int n), .own ((acc ++ genL k n f v).map intsV), .dat .none] := fun f => by
      induction f with
      | zero => intro v acc _ h; cases h
      | succ f ih =>
        intro v acc hv hd hl
        have app : StD [(tb, ("lyndon_words.<locals>.<lambda>" : Str))] K (tDrop (tBM K "list" rAppend (tVar 2) (tCons (tVar 3) tNil))) [.dat (.int k), .dat (.int n), .own (acc.map intsV), .dat (intsV v)] (.nx [.dat (.int k), .dat (.int n), .own ((acc ++ [v]).map intsV), .dat (intsV v)]) := by
          have := std_app (T := [(tb, ("lyndon_words.<locals>.<lambda>" : Str))]) (K := K) (ρ := [.dat (.int k), .dat (.int n), .own (acc.map intsV), .dat (intsV v)]) (i := 2) (te := tVar 3) (d := intsV v) rfl (evd_var rfl) (by simp; omega)
          rw [List.map_append]
          exact this
        have nxt : StD [(tb, ("lyndon_words.<locals>.<lambda>" : Str))] K (tAsg (tCall (spF [(tb, ("lyndon_words.<locals>.<lambda>" : Str))] K fNextL) [] E0 (tCons (tVar 3) (tCons (tVar 0) (tCons (tVar 1) tNil)))) (gName 3)) [.dat (.int k), .dat (.int n), .own ((acc ++ [v]).map intsV), .dat (intsV v)] (.nx [.dat (.int k), .dat (.int n), .own ((acc ++ [v]).map intsV), .dat (optW (nextL k n v))]) :=
          std_asg (evd_call (by walk_at "evs") (c_next hv hn))
        have tst : ∀ d, isNo d = false → TeD [(tb, ("lyndon_words.<locals>.<lambda>" : Str))] K (tB (tNotN (tVar 3))) [.dat (.int k), .dat (.int n), .own (acc.map intsV), .dat d] true := fun d h => TeD.is (ted_B (evd_notN (evd_var rfl))) (by rw [h]; rfl)
        rw [genL]
        rw [doneL] at hd
        refine .more (tst _ rfl) (std_seq app nxt) ?_
        cases e : nextL k n v with
        | none =>
          exact .stop (TeD.is (x := !isNo .none) (ted_B (evd_notN (evd_var rfl))) rfl)
        | some u =>
          rw [e] at hd
          have := ih u (acc ++ [v]) (next_ne e) hd (by simp; omega)
          rw [(List.append_assoc)] at this
          exact this
    have lp := loop f [0] [] (by simp) hf (by simpa using hf2)
    refine std_seq (ρ1 := [.dat (.int k), .dat (.int n), .own (([] : List (List Int)).map intsV), .dat (intsV [0])]) (std_parF (i := 2) (j := 3) (ds := []) (d2 := intsV [0]) (evf_lst evds_nil (Nat.zero_le _)) (EvD.is (evd_tup (evds_cons evd_int evds_nil) (Nat.le_of_ble_eq_true rfl)) rfl) (by decide)) ?_
    refine std_seq (std_wh lp) ?_
    refine std_share (i := 2) rfl ?_
    refine std_ret (evf_sortLam (evd_var rfl) ?_).ev
    have : ∀ f v, (genL k n f v).length ≤ f := fun f => by
      induction f with
      | zero => intro v; exact Nat.le_refl _
      | succ f ih =>
        intro v
        rw [genL, List.length_cons]
        cases nextL k n v with
        | none => simp
        | some u => have := ih u; simp; omega
    have := this f [0]
    simp
    omega
end
end K37
namespace K37
open PySem PySem.Spec L2
local macro_rules | `(tactic| walk_at "sz") => `(tactic| first | assumption | decide | omega)
local macro_rules | `(tactic| walk_at "call") => `(tactic| fail "no call")
local macro_rules | `(tactic| walk_at "cb") => `(tactic| first
  | with_reducible exact gcd_D | with_reducible exact len_T | with_reducible exact len_L | with_reducible exact tuple_L | with_reducible exact tuple_T | with_reducible exact max_D | with_reducible exact min_D | with_reducible exact abs_D
  | with_reducible exact int_D | with_reducible exact int_B)
local macro_rules | `(tactic| walk_at "op") => `(tactic| first
  | with_reducible exact minus_int | with_reducible exact plus_int | ((with_reducible apply times_int); walk_at "sz") | ((with_reducible apply ix_tupD); exact rfl) | ((with_reducible apply ix_lstD); exact rfl)
  | with_reducible exact lt_intD | with_reducible exact le_intD | with_reducible exact gt_intD | with_reducible exact ge_intD
  | ((with_reducible apply eq_D) <;> first | exact rfl | exact fr_shaped _ | assumption) | ((with_reducible apply ne_D) <;> first | exact rfl | exact fr_shaped _ | assumption)
  | ((with_reducible apply fdiv_int); walk_at "sz") | ((with_reducible apply fmod_int); walk_at "sz")
  | ((with_reducible apply plus_tup); walk_at "sz") | ((with_reducible apply plus_lst); walk_at "sz"))
local macro_rules | `(tactic| walk_at "evs") => `(tactic| first
  | with_reducible exact evds_nil
  | ((with_reducible apply evds_cons); (· walk_at "ev"); (· walk_at "evs")))
local macro_rules | `(tactic| walk_at "ev") => `(tactic| first
  | assumption
  | ((with_reducible apply evd_var); exact rfl)
  | with_reducible exact evd_int | with_reducible exact evd_cst | with_reducible exact evd_non | with_reducible exact evd_bl
  | ((with_reducible apply evd_op); (· walk_at "ev"); (· walk_at "ev"); (· walk_at "op"))
  | ((with_reducible apply evd_un); (· walk_at "ev"); (· with_reducible exact neg_intD))
  | ((with_reducible apply evd_call); (· walk_at "evs"); (· walk_at "call"))
  | ((with_reducible apply evd_cb); (· walk_at "evs"); (· walk_at "cb"))
  | ((with_reducible apply evd_tup); (· walk_at "evs"); (· exact Nat.le_of_ble_eq_true rfl))
  | ((with_reducible apply evd_isN); walk_at "ev") | ((with_reducible apply evd_notN); walk_at "ev")
  | ((with_reducible apply evd_not); walk_at "ev"))
local macro_rules | `(tactic| walk_at "te") => `(tactic| first
  | ((with_reducible apply ted_test); walk_at "ev") | ((with_reducible apply ted_B); walk_at "ev") | ((with_reducible apply ted_not); walk_at "te"))

/-! ### polynomials -/
abbrev pl (p : List Rat) : PyData := .tuple (p.map fr)
abbrev plL (p : List Rat) : PyData := .list (p.map fr)
def SmL (p : List Rat) : Prop := p.length ≤ 500 ∧ ∀ c ∈ p, Sm 4000 c
theorem frs_tup (p : List Rat) : tupDs (p.map fr) = p.map fr := tup_map fr tup_fr p
theorem c_tup_pl {p : List Rat} (h : p.length ≤ 1000) : fTupleOf 7 [pl p] (pl p) := by
  refine ⟨_, rfl, ?_, ?_, ?_⟩
  · have := deps_map fr (k := 1) (fun x => by rw [dep_fr]; omega) p
    show deps (p.map fr) + 1 ≤ 7
    omega
  · show (decide ((p.map fr).length ≤ 10000) && okDs (p.map fr)) = true
    rw [okDs_map fr ok_fr, List.length_map, decide_eq_true (by omega)]; rfl
  · show _ = PyData.tuple (tupDs (p.map fr))
    rw [frs_tup]
theorem c_tup_plL {p : List Rat} (h : p.length ≤ 1000) : fTupleOf 7 [plL p] (pl p) := by
  refine ⟨_, rfl, ?_, ?_, ?_⟩
  · have := deps_map fr (k := 1) (fun x => by rw [dep_fr]; omega) p
    show deps (p.map fr) + 1 ≤ 7
    omega
  · show (decide ((p.map fr).length ≤ 10000) && okDs (p.map fr)) = true
    rw [okDs_map fr ok_fr, List.length_map, decide_eq_true (by omega)]; rfl
  · show _ = PyData.tuple (tupDs (p.map fr))
    rw [frs_tup]
theorem frs_lay (p : List Rat) : PyData.canLayAll0 (p.map fr) = true := lay0_map fr (fun x => by simp [fr, PyData.canLay0, PyData.canLayAll0]) p
theorem frs_depth (p : List Rat) : PyData.depthAll (p.map fr) ≤ 1 := depth_map fr (fun x => by simp [fr, PyData.depth, PyData.depthAll]) p
theorem pl_shaped (p : List Rat) : SeqAt.shaped (pl p) = true := by
  have h2 := frs_depth p
  simp [SeqAt.shaped, pl, PyData.canLay0, PyData.depth, frs_lay p]
  omega
theorem plL_shaped (p : List Rat) : SeqAt.shaped (plL p) = true := by
  have h2 := frs_depth p
  simp [SeqAt.shaped, plL, PyData.canLay0, PyData.depth, frs_lay p]
  omega
theorem pl_eqv (p q : List Rat) : PyData.eqv (pl p) (pl q) = decide (p = q) := eqvAll_map fr fr_eqv p q
theorem plL_eqv (p q : List Rat) : PyData.eqv (plL p) (plL q) = decide (p = q) := eqvAll_map fr fr_eqv p q
def fTrim (ds : List PyData) (d : PyData) : Prop := ∃ (p : List Rat), (ds = [pl p] ∨ ds = [plL p]) ∧ p.length ≤ 1000 ∧ d = pl (trim p)
def fLonger (ds : List PyData) (d : PyData) : Prop := ∃ (p : List Rat) (m : Nat), ds = [pl p, .int m] ∧ p.length ≤ 1000 ∧ m ≤ 1000 ∧ d = plL (pad p m)
def fPplus (ds : List PyData) (d : PyData) : Prop := ∃ (p q : List Rat), ds = [pl p, pl q] ∧ SmL p ∧ SmL q ∧ d = pl (padd p q)
def fPscale (ds : List PyData) (d : PyData) : Prop := ∃ (p : List Rat) (x : Rat), ds = [pl p, fr x] ∧ SmL p ∧ Sm 4000 x ∧ d = pl (pscale x p)
def fPstep (ds : List PyData) (d : PyData) : Prop := ∃ (p : List Rat), ds = [pl [0, 1], pl p] ∧ SmL p ∧ d = pl (pstep p)
section
variable {P : Program} {w : World} {K : PySem.W.Frag} {mg : Str → Option Value} {base : Heap} {T : Tb}
local macro_rules | `(tactic| walk_at "call") => `(tactic| ((with_reducible apply c_tup_pl); walk_at "sz"))
local macro_rules | `(tactic| walk_at "call") => `(tactic| ((with_reducible apply c_tup_plL); walk_at "sz"))
local macro_rules | `(tactic| walk_at "call") => `(tactic| ((with_reducible apply c_plus) <;> walk_at "sz"))
local macro_rules | `(tactic| walk_at "call") => `(tactic| ((with_reducible apply c_times) <;> walk_at "sz"))
theorem trim_loop {xs : PyData} (l : List Rat) : Wh T K (tAnd (tTest (tOp (rNeD K) (tVar 1) (tLst tNil))) (tTest (tOp (rEqD K) (tOp (rIx K) (tVar 1) (tUn (rU fun i => .int (-i)) (tC (.int 1)))) (tCst K (fr 0))))) (tDrop (tBM0 K "list" rPop (tVar 1)))
    [.dat xs, .own (l.reverse.map fr)] [.dat xs, .own ((dropZ l).reverse.map fr)] := by
  induction l with
  | nil => exact .stop (TeD.is (x := !PyData.eqv (plL []) (plL []) && true) (ted_and (ted_test (evd_neOwn (i := 1) rfl (evf_lst evds_nil (Nat.zero_le _)).ev rfl rfl)) fun h => by cases h) rfl)
  | cons x l ih =>
    have ex : ((x :: l).reverse.map fr).getLast? = some (fr x) := by simp
    have hne : (x :: l).reverse ≠ [] := by simp
    have t1 : TeD T K (tTest (tOp (rNeD K) (tVar 1) (tLst tNil))) [.dat xs, .own ((x :: l).reverse.map fr)] true :=
      TeD.is (ted_test (evd_neOwn (i := 1) rfl (evf_lst evds_nil (Nat.zero_le _)).ev (plL_shaped _) rfl)) (by rw [show PyData.eqv (.list ((x :: l).reverse.map fr)) (.list []) = decide ((x :: l).reverse = []) from plL_eqv _ []]; simp)
    have t2 : TeD T K (tTest (tOp (rEqD K) (tOp (rIx K) (tVar 1) (tUn (rU fun i => .int (-i)) (tC (.int 1)))) (tCst K (fr 0)))) [.dat xs, .own ((x :: l).reverse.map fr)] (decide (x = 0)) :=
      TeD.is (ted_test (evd_op (evd_ixOwn (i := 1) rfl (evd_un evd_int neg_intD) (at_last ex)) evd_cst (eq_D (fr_shaped _) (fr_shaped _)))) (fr_eqv _ _)
    have ec : dropZ (x :: l) = if x = 0 then dropZ l else x :: l := by unfold dropZ; rw [List.dropWhile_cons]; simp
    rw [ec]
    by_cases e : x = 0
    · rw [if_pos e]
      refine .more (ρ1 := [.dat xs, .own (l.reverse.map fr)]) (TeD.is (ted_and t1 fun _ => t2) (by rw [decide_eq_true e]; rfl)) ?_ ih
      have ed : ((x :: l).reverse.map fr).dropLast = l.reverse.map fr := by simp
      have := std_pop (T := T) (K := K) (ρ := [.dat xs, .own ((x :: l).reverse.map fr)]) (i := 1) rfl (by simp)
      rw [ed] at this
      exact this
    · rw [if_neg e]
      exact .stop (TeD.is (ted_and t1 fun _ => t2) (by rw [decide_eq_false e]; rfl))
theorem sc_trimmed : FnScope ["row", "found"] ["row"] (defScope (top 38)) := ⟨rfl, rfl, rfl, by decide +kernel, rfl, by decide +kernel, by decide +kernel⟩
theorem d_trimmed (C : CT P w K mg base T) : Df P w K mg base "trimmed" 9 ["row"] (spF T K fTrim) := by
  refine df_of C (i := 26) (x := "trimmed") (N := ["row", "found"]) (n := 1) rfl sc_trimmed (fun _ _ _ _ _ _ us hl => match us, hl with | [_], _ => rfl) ?_ rfl fun cdv A outer s H E fa hr => ⟨_, (pss_cons (ps_set (i := 1) sc_trimmed.nd rfl (by first | exact Or.inl rfl | exact Or.inr rfl) (pe_callTy (call_listK K rfl) (by rfl) (C.free 8 _ rfl) (by decide +kernel) (pa_cons (pe_dfK (d_tuple_of C) rfl rfl rfl rfl rfl hr (by rfl) (pa_cons (pv 0) pa_nil)) pa_nil)))
  (pss_cons (ps_while PassesOwn.never (PW.pt (pw_and (pt_cmpR (op_neK K rfl hr.units) (pv 1) (pe_lst pa_nil) (nomark _)) (pw_and1 (pt_cmpR (op_eqK K rfl hr.units) (pe_ix (ix_seqK K rfl) (pv 1) (pe_un un_neg pe_int) (fun _ _ => rfl)) (pe_cstK K rfl (by rfl) (C.cst 2 _ rfl)) (nomark _))))) (pss_one (ps_expr (pe_bm0K K rfl PySem.F.plainAttrs_list PySem.F.slot_list_pop PySem.F.type_list_pop mt_pop (pv 1)))))
  (pss_one (ps_ret (pe_callTy (call_tupleK K rfl) (by rfl) (C.free 16 _ rfl) (by decide +kernel) (pa_cons (pv 1) pa_nil)))))), ?_⟩
  · rintro _ _ ⟨p, hds, hl, rfl⟩
    rcases hds with h1 | h1 <;> (rw [h1]; rfl)
  · rintro _ _ ⟨p, hds, hl, rfl⟩
    have lp := fun xs => trim_loop (T := T) (K := K) (xs := xs) p.reverse
    rw [List.reverse_reverse] at lp
    rcases hds with h1 | h1
    · rw [h1]
      exact std_seq (std_asgF (ds := p.map fr) (evf_cb (evds_cons (by walk_at "ev") evds_nil) list_TF)) (std_seq (std_wh (lp _)) (std_ret (evd_tupOwn (i := 1) rfl)))
    · rw [h1]
      exact std_seq (std_asgF (ds := p.map fr) (evf_cb (evds_cons (by walk_at "ev") evds_nil) list_TF)) (std_seq (std_wh (lp _)) (std_ret (evd_tupOwn (i := 1) rfl)))
theorem c_trim {p : List Rat} (h : p.length ≤ 1000) : fTrim [pl p] (pl (trim p)) := ⟨p, .inl rfl, h, rfl⟩
theorem c_trimL {p : List Rat} (h : p.length ≤ 1000) : fTrim [plL p] (pl (trim p)) := ⟨p, .inr rfl, h, rfl⟩
theorem sc__longer : FnScope ["poly", "many"] ["poly", "many"] (defScope (top 39)) := ⟨rfl, rfl, rfl, by decide +kernel, rfl, by decide +kernel, by decide +kernel⟩
theorem d_longer (C : CT P w K mg base T) : Df P w K mg base "_longer" 9 ["poly", "many"] (spF T K fLonger) := by
  refine df_of C (i := 27) (x := "_longer") (N := ["poly", "many"]) (n := 0) rfl sc__longer (fun _ _ _ _ _ _ us hl => match us, hl with | [_, _], _ => rfl) ?_ rfl fun cdv A outer s H E fa hr => ⟨_, (pss_one (ps_ret (pe_op (op_plusK K rfl) (pe_callTy (call_listK K rfl) (by rfl) (C.free 8 _ rfl) (by decide +kernel) (pa_cons (pe_dfK (d_tuple_of C) rfl rfl rfl rfl rfl hr (by rfl) (pa_cons (pv 0) pa_nil)) pa_nil)) (pe_op (op_timesK K rfl) (pe_lst (pa_cons (pe_cstK K rfl (by rfl) (C.cst 2 _ rfl)) pa_nil)) (pe_op op_sub (pv 1) (pe_callB (call_lenK K rfl) (by rfl) (C.free 7 _ rfl) (by decide +kernel) (pa_cons (pv 0) pa_nil))))))), ?_⟩
  · rintro _ _ ⟨p, m, rfl, hl, hm, rfl⟩
    rfl
  · rintro _ _ ⟨p, m, rfl, hl, hm, rfl⟩
    refine std_ret (EvD.is (evd_op (evf_cb (evds_cons (by walk_at "ev") evds_nil) list_TF).ev (evd_op (evf_lst (evds_cons evd_cst evds_nil) (by decide)).ev (evd_op (evd_var rfl) (by walk_at "ev") minus_int) (OpF.ev (times_lstF ?_ ?_ ?_))) (plus_lst ?_)) ?_)
    · rw [List.length_map]; omega
    · rw [List.length_map]; omega
    · simp
    · simp; omega
    · show PyData.list _ = plL _
      unfold plL pad
      rw [List.map_append, List.length_map]
      congr 2
      have : ((m : Int) - (p.length : Int)).toNat = m - p.length := by omega
      rw [this]
      simp
theorem c_longer {p : List Rat} {m : Nat} (h : p.length ≤ 1000) (hm : m ≤ 1000) : fLonger [pl p, .int m] (plL (pad p m)) := ⟨p, m, rfl, h, hm, rfl⟩
theorem zipD_get {α β : Type} {f : α → PyData} {g : β → PyData} {p : List α} {q : List β} {i : Nat} {d : PyData} (h : (zipD (p.map f) (q.map g))[i]? = some d) : ∃ x y, p[i]? = some x ∧ q[i]? = some y ∧ d = .tuple [f x, g y] := by
  unfold zipD at h
  rw [List.getElem?_zipWith, List.getElem?_map, List.getElem?_map] at h
  cases hp : p[i]? with
  | none => rw [hp] at h; cases h
  | some x =>
    cases hq : q[i]? with
    | none => rw [hp, hq] at h; cases h
    | some y =>
      rw [hp, hq] at h
      cases h
      exact ⟨x, y, rfl, rfl, rfl⟩
theorem pad_sm {p : List Rat} {m : Nat} (h : SmL p) : ∀ c ∈ pad p m, Sm 4000 c := fun c hc => by
  rcases List.mem_append.mp hc with z | z
  · exact h.2 c z
  · rw [(List.mem_replicate.mp z).2]
    exact Bq.sm (D := 1) (B := 0) Bq.zero (by decide) (p4000 (by decide)) (p4000 (by decide))
theorem mem_get {α : Type} {l : List α} {i : Nat} {x : α} (h : l[i]? = some x) : x ∈ l := List.mem_of_getElem? h
local macro_rules | `(tactic| walk_at "call") => `(tactic| ((with_reducible apply c_longer) <;> walk_at "sz"))
theorem sc_poly_plus : FnScope ["poly", "other", "many", "x", "y"] ["poly", "other"] (defScope (top 40)) := ⟨rfl, rfl, rfl, by decide +kernel, rfl, by decide +kernel, by decide +kernel⟩
theorem d_poly_plus (C : CT P w K mg base T) : Df P w K mg base "poly_plus" 10 ["poly", "other"] (spF T K fPplus) := by
  refine df_of C (i := 28) (x := "poly_plus") (N := ["poly", "other", "many", "x", "y"]) (n := 3) rfl sc_poly_plus (fun _ _ _ _ _ _ us hl => match us, hl with | [_, _], _ => rfl) ?_ rfl fun cdv A outer s H E fa hr => ⟨_, (pss_cons (ps_set (i := 2) sc_poly_plus.nd rfl (by first | exact Or.inl rfl | exact Or.inr rfl) (pe_callB (call_max2 rfl) (by rfl) (C.free 9 _ rfl) (by decide +kernel) (pa_cons (pe_callB (call_lenK K rfl) (by rfl) (C.free 7 _ rfl) (by decide +kernel) (pa_cons (pv 0) pa_nil)) (pa_cons (pe_callB (call_lenK K rfl) (by rfl) (C.free 7 _ rfl) (by decide +kernel) (pa_cons (pv 1) pa_nil)) pa_nil))))
  (pss_one (ps_ret (pe_dfK (d_trimmed C) rfl rfl rfl rfl rfl hr (by rfl) (pa_cons (pe_lc rfl sc_poly_plus.nd (pi_zipX K rfl (by rfl) (C.free 17 _ rfl) (pa_cons (pe_dfK (d_longer C) rfl rfl rfl rfl rfl hr (by rfl) (pa_cons (pv 0) (pa_cons (pv 2) pa_nil))) (pa_cons (pe_dfK (d_longer C) rfl rfl rfl rfl rfl hr (by rfl) (pa_cons (pv 1) (pa_cons (pv 2) pa_nil))) pa_nil))) (blkOk_by (own := [("x", 3), ("y", 4)]) (by kernel_rfl)) (fun _ _ _ _ _ => (pg_tupK K rfl (n := 2) rfl (pgs_cons (pg_name (i := 3) sc_poly_plus.nd rfl (by first | exact Or.inl rfl | exact Or.inr rfl)) (pgs_cons (pg_name (i := 4) sc_poly_plus.nd rfl (by first | exact Or.inl rfl | exact Or.inr rfl)) pgs_nil)))) (fun _ _ _ _ _ => pts_nil) (fun _ _ _ _ _ => (pe_dfK (d_plus C) rfl rfl rfl rfl rfl hr (by rfl) (pa_cons (pv 3) (pa_cons (pv 4) pa_nil))))) pa_nil))))), ?_⟩
  · rintro _ _ ⟨p, q, rfl, hp, hq, rfl⟩
    rfl
  · rintro _ _ ⟨p, q, rfl, hp, hq, rfl⟩
    have lp := hp.1
    have lq := hq.1
    have e0 : max ((p.map fr).length : Int) ((q.map fr).length : Int) = ((max p.length q.length : Nat) : Int) := by simp; omega
    have hm : max p.length q.length ≤ 1000 := by omega
    have lp2 : p.length ≤ 1000 := by omega
    have lq2 : q.length ≤ 1000 := by omega
    refine std_seq (ρ1 := [.dat (pl p), .dat (pl q), .dat (.int ((max p.length q.length : Nat) : Int)), .any, .any]) ?_ ?_
    · rw [← e0]
      exact std_asg (by walk_at "ev")
    · refine std_ret (evd_call (evds_cons (evf_lc (js := [3, 4]) ((addL p q).map fr) (itd_zip true true (ds := (pad p (max p.length q.length)).map fr) (es := (pad q (max p.length q.length)).map fr) (evds_cons (evd_call (by walk_at "evs") (c_longer lp2 hm)) (evds_cons (evd_call (by walk_at "evs") (c_longer lq2 hm)) evds_nil))) (by decide) ?_ ?_ ?_).ev evds_nil) (c_trimL ?_))
      · rw [List.length_map, addL_len]
        unfold zipD
        rw [List.length_zipWith, List.length_map, List.length_map, pad_len _ (Nat.le_max_left _ _), pad_len _ (Nat.le_max_right _ _)]
        omega
      · unfold zipD
        rw [List.length_zipWith, List.length_map, List.length_map, pad_len _ (Nat.le_max_left _ _), pad_len _ (Nat.le_max_right _ _)]
        omega
      · intro i d e hd he
        obtain ⟨x, y, hx, hy, rfl⟩ := zipD_get hd
        have hs : (addL p q)[i]? = some (x + y) := by
          unfold addL
          rw [List.getElem?_zipWith, hx, hy]
        rw [List.getElem?_map, hs] at he
        cases he
        have h1 := pad_sm hp x (mem_get hx)
        have h2 := pad_sm hq y (mem_get hy)
        exact ⟨_, tgd_tup2 tgd_name tgd_name, by walk_at "ev"⟩
      · rw [addL_len]; omega
theorem sc_poly_scaled : FnScope ["poly", "x", "own"] ["poly", "x"] (defScope (top 41)) := ⟨rfl, rfl, rfl, by decide +kernel, rfl, by decide +kernel, by decide +kernel⟩
theorem d_poly_scaled (C : CT P w K mg base T) : Df P w K mg base "poly_scaled" 10 ["poly", "x"] (spF T K fPscale) := by
  refine df_of C (i := 29) (x := "poly_scaled") (N := ["poly", "x", "own"]) (n := 1) rfl sc_poly_scaled (fun _ _ _ _ _ _ us hl => match us, hl with | [_, _], _ => rfl) ?_ rfl fun cdv A outer s H E fa hr => ⟨_, (pss_one (ps_ret (pe_dfK (d_trimmed C) rfl rfl rfl rfl rfl hr (by rfl) (pa_cons (pe_lc rfl sc_poly_scaled.nd (pi_seqK K rfl (pv 0)) (blkOk_by (own := [("own", 2)]) (by kernel_rfl)) (fun _ _ _ _ _ => (pg_name (i := 2) sc_poly_scaled.nd rfl (by first | exact Or.inl rfl | exact Or.inr rfl))) (fun _ _ _ _ _ => pts_nil) (fun _ _ _ _ _ => (pe_dfK (d_times C) rfl rfl rfl rfl rfl hr (by rfl) (pa_cons (pv 2) (pa_cons (pv 1) pa_nil))))) pa_nil)))), ?_⟩
  · rintro _ _ ⟨p, x, rfl, hp, hx, rfl⟩
    rfl
  · rintro _ _ ⟨p, x, rfl, hp, hx, rfl⟩
    have lp := hp.1
    refine std_ret (evd_call (evds_cons (evf_lc (js := [2]) ((p.map (· * x)).map fr) (itd_T (ds := p.map fr) (by walk_at "ev")) (by decide) (by simp) (by simp; omega) ?_).ev evds_nil) (c_trimL (by simp; omega)))
    intro i d e hd he
    rw [List.getElem?_map] at hd
    rw [List.getElem?_map, List.getElem?_map] at he
    cases hy : p[i]? with
    | none => rw [hy] at hd; cases hd
    | some y =>
      rw [hy] at hd he
      cases hd; cases he
      have h1 := hp.2 y (mem_get hy)
      exact ⟨_, tgd_name, by walk_at "ev"⟩
theorem sm0 : Sm 4000 0 := Bq.sm (D := 1) (B := 0) Bq.zero (by decide) (p4000 (by decide)) (p4000 (by decide))
theorem sm1 : Sm 4000 1 := Bq.sm (D := 1) (B := 1) (Bq.int 1) (by decide) (p4000 (by decide)) (p4000 (by decide))
theorem any_weak5 (a b c d e f g : Sl) : ∀ (i : Nat) (s : Sl), [a, b, c, d, e, Sl.any, .any][i]? = some s → s = .any ∨ [a, b, c, d, e, f, g][i]? = some s := fun i s h => by
  match i, h with
  | 0, h => exact .inr h
  | 1, h => exact .inr h
  | 2, h => exact .inr h
  | 3, h => exact .inr h
  | 4, h => exact .inr h
  | 5, h => exact .inl (Option.some.inj h).symm
  | 6, h => exact .inl (Option.some.inj h).symm
  | _ + 7, h => cases h
theorem any_weak3 (a b c d e f g : Sl) : ∀ (i : Nat) (s : Sl), [a, b, c, Sl.any, .any, .any, .any][i]? = some s → s = .any ∨ [a, b, c, d, e, f, g][i]? = some s := any_weak a b c d e f g
theorem sc_poly_times : FnScope ["poly", "other", "found", "i", "x", "j", "y"] ["poly", "other"] (defScope (top 42)) := ⟨rfl, rfl, rfl, by decide +kernel, rfl, by decide +kernel, by decide +kernel⟩
theorem d_poly_times (C : CT P w K mg base T) : Df P w K mg base "poly_times" 10 ["poly", "other"] (spF T K fPstep) := by
  refine df_of C (i := 30) (x := "poly_times") (N := ["poly", "other", "found", "i", "x", "j", "y"]) (n := 5) rfl sc_poly_times (fun _ _ _ _ _ _ us hl => match us, hl with | [_, _], _ => rfl) ?_ rfl fun cdv A outer s H E fa hr => ⟨_, (pss_cons (ps_if (PW.pt (pw_or (pt_cmpR (op_eqK K rfl hr.units) (pe_callB (call_lenK K rfl) (by rfl) (C.free 7 _ rfl) (by decide +kernel) (pa_cons (pv 0) pa_nil)) pe_int (nomark _)) (pw_or1 (pt_cmpR (op_eqK K rfl hr.units) (pe_callB (call_lenK K rfl) (by rfl) (C.free 7 _ rfl) (by decide +kernel) (pa_cons (pv 1) pa_nil)) pe_int (nomark _))))) (pss_one (ps_ret (pe_tup pa_nil))) pss_nil)
  (pss_cons (ps_set (i := 2) sc_poly_times.nd rfl (by first | exact Or.inl rfl | exact Or.inr rfl) (pe_op (op_timesK K rfl) (pe_lst (pa_cons (pe_cstK K rfl (by rfl) (C.cst 2 _ rfl)) pa_nil)) (pe_op op_sub (pe_op (op_plusK K rfl) (pe_callB (call_lenK K rfl) (by rfl) (C.free 7 _ rfl) (by decide +kernel) (pa_cons (pv 0) pa_nil)) (pe_callB (call_lenK K rfl) (by rfl) (C.free 7 _ rfl) (by decide +kernel) (pa_cons (pv 1) pa_nil))) pe_int)))
  (pss_cons (ps_for PassesOwn.never rfl (pi_enumX K rfl (by rfl) (C.free 4 _ rfl) (pa_cons (pv 0) pa_nil)) (pg_tupK K rfl (n := 2) rfl (pgs_cons (pg_name (i := 3) sc_poly_times.nd rfl (by first | exact Or.inl rfl | exact Or.inr rfl)) (pgs_cons (pg_name (i := 4) sc_poly_times.nd rfl (by first | exact Or.inl rfl | exact Or.inr rfl)) pgs_nil))) (pss_one (ps_for PassesOwn.never rfl (pi_enumX K rfl (by rfl) (C.free 4 _ rfl) (pa_cons (pv 1) pa_nil)) (pg_tupK K rfl (n := 2) rfl (pgs_cons (pg_name (i := 5) sc_poly_times.nd rfl (by first | exact Or.inl rfl | exact Or.inr rfl)) (pgs_cons (pg_name (i := 6) sc_poly_times.nd rfl (by first | exact Or.inl rfl | exact Or.inr rfl)) pgs_nil))) (pss_one (ps_asg (pe_dfK (d_plus C) rfl rfl rfl rfl rfl hr (by rfl) (pa_cons (pe_ix (ix_seqK K rfl) (pv 2) (pe_op (op_plusK K rfl) (pv 3) (pv 5)) (fun _ _ => rfl)) (pa_cons (pe_dfK (d_times C) rfl rfl rfl rfl rfl hr (by rfl) (pa_cons (pv 4) (pa_cons (pv 6) pa_nil))) pa_nil))) (pg_sub (pv 2) (pe_op (op_plusK K rfl) (pv 3) (pv 5)) set_list))))))
  (pss_one (ps_ret (pe_dfK (d_trimmed C) rfl rfl rfl rfl rfl hr (by rfl) (pa_cons (pv 2) pa_nil))))))), ?_⟩
  · rintro _ _ ⟨p, rfl, hp, rfl⟩
    rfl
  · rintro _ _ ⟨p, rfl, hp, rfl⟩
    have lp := hp.1
    by_cases hn : p = []
    · subst hn
      have e0 : pstep [] = [] := rfl
      rw [e0]
      refine std_seqR (std_if (x := true) (TeD.is (x := PyData.eqv (.int ((([0, 1] : List Rat).map fr).length : Int)) (.int 0) || PyData.eqv (.int ((([] : List Rat).map fr).length : Int)) (.int 0)) (ted_or (by walk_at "te") fun _ => by walk_at "te") rfl) (fun _ => std_ret (EvD.is (evd_tup evds_nil (Nat.zero_le _)) rfl)) fun h => by cases h)
    · have hpos := List.length_pos_iff.mpr hn
      have e0 : pstep p = trim (0 :: p) := by unfold pstep; rw [if_neg hn]
      rw [e0]
      have n2 : PyData.eqv (.int ((p.map fr).length : Int)) (.int 0) = false := by rw [eqv_int]; exact decide_eq_false (by simp; omega)
      refine std_seq (std_if (x := false) (TeD.is (ted_or (x := PyData.eqv (.int ((([0, 1] : List Rat).map fr).length : Int)) (.int 0)) (y := PyData.eqv (.int ((p.map fr).length : Int)) (.int 0)) (by walk_at "te") fun _ => by walk_at "te") (by rw [n2]; rfl)) (fun h => by cases h) fun _ => std_next) ?_
      -- the table of sums, row by row
      let ρ0 : List Rat → List Sl := fun l => [.dat (pl [0, 1]), .dat (pl p), .own (l.map fr), .any, .any, .any, .any]
      have elen : (((([0, 1] : List Rat).map fr).length : Int) + ((p.map fr).length : Int) - 1).toNat = p.length + 1 := by simp; omega
      have start : StD T K (tAsg (tOp (rTimes K) (tLst (tCons (tCst K (fr 0)) tNil)) (tOp (rI0 fun i j => .int (i - j)) (tOp (rPlus K) (tCB (rLenS K) (tCons (tVar 0) tNil)) (tCB (rLenS K) (tCons (tVar 1) tNil))) (tC (.int 1)))) (gName 2)) [.dat (pl [0, 1]), .dat (pl p), .any, .any, .any, .any, .any] (.nx (ρ0 (List.replicate (p.length + 1) 0))) := by
        have h := std_asgF (T := T) (K := K) (ρ := [.dat (pl [0, 1]), .dat (pl p), .any, .any, .any, .any, .any]) (i := 2) (evf_op (evf_lst (evds_cons (evd_cst (d := fr 0)) evds_nil) (Nat.le_of_ble_eq_true rfl)).ev (evd_op (evd_op (evd_cb (evds_cons (evd_var (i := 0) rfl) evds_nil) len_T) (evd_cb (evds_cons (evd_var (i := 1) rfl) evds_nil) len_T) plus_int) evd_int minus_int) (times_lstF (xs := [fr 0]) (k := ((([0, 1] : List Rat).map fr).length : Int) + ((p.map fr).length : Int) - 1) (by simp; omega) (by simp; omega) (by decide)))
        rw [elen] at h
        have : (List.replicate (p.length + 1) [fr 0]).flatten = (List.replicate (p.length + 1) (0 : Rat)).map fr := by simp
        rw [this] at h
        exact h
      refine std_seq start ?_
      -- one turn of the inner loop
      have turn : ∀ (a : Rat) (b : Nat) (l : Nat → List Rat), Sm 4000 a → (∀ j, j ≤ p.length → (l j).length = p.length + 1 ∧ ∀ c ∈ l j, Sm 4000 c) → (∀ j y, p[j]? = some y → l (j + 1) = (l j).set (b + j) ((l j).getD (b + j) 0 + a * y)) → b ≤ 1 → (∀ j y, p[j]? = some y → Sm 4000 (a * y)) →
          StD T K (tFor (iEnumX K (tCons (tVar 1) tNil)) (gTup K 2 (gCons (gName 5) (gCons (gName 6) gNil))) (tAsg (tCall (spF T K fPlus) [] E0 (tCons (tOp (rIx K) (tVar 2) (tOp (rPlus K) (tVar 3) (tVar 5))) (tCons (tCall (spF T K fTimes) [] E0 (tCons (tVar 4) (tCons (tVar 6) tNil))) tNil))) (gSub (tVar 2) (tOp (rPlus K) (tVar 3) (tVar 5)) rSetL)))
            [.dat (pl [0, 1]), .dat (pl p), .own ((l 0).map fr), .dat (.int (b : Nat)), .dat (fr a), .any, .any] (.nx (ρ0 (l p.length))) := fun a b l ha hl hs hb hay => by
        have fin : (enumD (p.map fr)).length = p.length := by unfold enumD; simp
        refine std_weakN (ρ1 := [.dat (pl [0, 1]), .dat (pl p), .own ((l (enumD (p.map fr)).length).map fr), .dat (.int (b : Nat)), .dat (fr a), .any, .any]) ?_ rfl ?_
        · refine std_for (js := [5, 6]) (ρs := fun j => [.dat (pl [0, 1]), .dat (pl p), .own ((l j).map fr), .dat (.int (b : Nat)), .dat (fr a), .any, .any]) (itd_enum false (evds_cons (EvD.is (evd_var (i := 1) rfl) rfl) evds_nil)) fun j d hd => ?_
          have hj : ∃ y, p[j]? = some y ∧ d = .tuple [.int (j : Nat), fr y] := by
            unfold enumD at hd
            rw [List.getElem?_mapIdx, List.getElem?_map] at hd
            cases hy : p[j]? with
            | none => rw [hy] at hd; cases hd
            | some y => rw [hy] at hd; cases hd; exact ⟨y, rfl, rfl⟩
          obtain ⟨y, hy, rfl⟩ := hj
          have hjl : j < p.length := (List.getElem?_eq_some_iff.mp hy).1
          obtain ⟨len, sm⟩ := hl j (by omega)
          have hbj : b + j < (l j).length := by omega
          have ei : ((l j).map fr)[b + j]? = some (fr ((l j).getD (b + j) 0)) := by
            rw [List.getElem?_map, List.getD_eq_getElem?_getD, List.getElem?_eq_getElem hbj]; rfl
          have s1 : Sm 4000 ((l j).getD (b + j) 0) := by
            rw [List.getD_eq_getElem?_getD, List.getElem?_eq_getElem hbj]
            exact sm _ (List.getElem_mem hbj)
          have s2 := hp.2 y (mem_get hy)
          have s3 := hay j y hy
          refine ⟨_, tgd_tup2 tgd_name tgd_name, ?_⟩
          have ebj : ((b : Nat) : Int) + ((j : Nat) : Int) = ((b + j : Nat) : Int) := by omega
          have el : EvD T K (tOp (rPlus K) (tVar 3) (tVar 5)) [.dat (pl [0, 1]), .dat (pl p), .own ((l j).map fr), .dat (.int (b : Nat)), .dat (fr a), .dat (.int (j : Nat)), .dat (fr y)] (.int ((b + j : Nat) : Int)) :=
            EvD.is (evd_op (evd_var rfl) (evd_var rfl) plus_int) (by rw [ebj])
          have er : EvD T K (tOp (rIx K) (tVar 2) (tOp (rPlus K) (tVar 3) (tVar 5))) [.dat (pl [0, 1]), .dat (pl p), .own ((l j).map fr), .dat (.int (b : Nat)), .dat (fr a), .dat (.int (j : Nat)), .dat (fr y)] (fr ((l j).getD (b + j) 0)) := evd_ixOwn rfl el (at_nat ei)
          refine std_weakN (ρ1 := [.dat (pl [0, 1]), .dat (pl p), .own (((l j).map fr).set (b + j) (fr ((l j).getD (b + j) 0 + a * y))), .dat (.int (b : Nat)), .dat (fr a), .dat (.int (j : Nat)), .dat (fr y)]) (std_setL (i := 2) (k := b + j) rfl (by walk_at "ev") el (by rw [List.length_map]; exact hbj)) rfl ?_
          have : ((l j).map fr).set (b + j) (fr ((l j).getD (b + j) 0 + a * y)) = (l (j + 1)).map fr := by rw [hs j y hy, List.map_set]
          rw [this]
          exact any_weak5 _ _ _ _ _ _ _
        · rw [fin]
          exact any_weak3 _ _ _ _ _ _ _
      have z1 : Sm 4000 0 := sm0
      let l1 : Nat → List Rat := fun j => 0 :: (p.take j ++ List.replicate (p.length - j) 0)
      have l1len : ∀ j, j ≤ p.length → (l1 j).length = p.length + 1 := fun j hj => by
        show (0 :: (p.take j ++ List.replicate (p.length - j) 0)).length = _
        simp; omega
      have t0 := turn 0 0 (fun _ => List.replicate (p.length + 1) 0) sm0 (fun j hj => ⟨by simp, fun c hc => by rw [(List.mem_replicate.mp hc).2]; exact sm0⟩) (fun j y hy => by
        have hjl : j < p.length := (List.getElem?_eq_some_iff.mp hy).1
        have e1 : (List.replicate (p.length + 1) (0 : Rat)).getD (0 + j) 0 = 0 := by
          rw [List.getD_eq_getElem?_getD, List.getElem?_replicate]; split <;> rfl
        rw [e1, Rat.zero_mul, Rat.add_zero]
        refine (List.ext_getElem? fun k => ?_)
        rw [List.getElem?_set]
        split
        · split
          · rename_i h1 h2; subst h1; rw [List.getElem?_replicate, if_pos (by simpa using h2)]
          · rename_i h1 h2; subst h1; simp at h2; omega
        · rfl) (by omega) (fun j y hy => by rw [Rat.zero_mul]; exact sm0)
      have t1 := turn 1 1 l1 sm1 (fun j hj => ⟨l1len j hj, fun c hc => by
          rcases List.mem_cons.mp hc with z | z
          · rw [z]; exact sm0
          · rcases List.mem_append.mp z with z | z
            · exact hp.2 c (List.mem_of_mem_take z)
            · rw [(List.mem_replicate.mp z).2]; exact sm0⟩) (fun j y hy => by
        have hjl : j < p.length := (List.getElem?_eq_some_iff.mp hy).1
        have len1 : (p.take j).length = j := by simp; omega
        have e1 : (l1 j).getD (1 + j) 0 = 0 := by
          show (0 :: (p.take j ++ List.replicate (p.length - j) 0)).getD (1 + j) 0 = 0
          rw [Nat.add_comm, List.getD_cons_succ, List.getD_eq_getElem?_getD, List.getElem?_append_right (by omega), List.getElem?_replicate]
          split <;> rfl
        rw [e1, Rat.zero_add, Rat.one_mul]
        show 0 :: (p.take (j + 1) ++ List.replicate (p.length - (j + 1)) 0) = (0 :: (p.take j ++ List.replicate (p.length - j) 0)).set (1 + j) y
        rw [Nat.add_comm 1 j, List.set_cons_succ, List.set_append_right _ _ (by omega), len1, Nat.sub_self]
        have : p.length - j = (p.length - (j + 1)) + 1 := by omega
        rw [this, List.replicate_succ, List.set_cons_zero, List.take_add_one, hy]
        simp) (by omega) (fun j y hy => by rw [Rat.one_mul]; exact hp.2 y (mem_get hy))
      have e1 : l1 0 = List.replicate (p.length + 1) 0 := by
        show 0 :: (p.take 0 ++ List.replicate (p.length - 0) 0) = _
        rw [List.replicate_succ]; rfl
      have e2 : l1 p.length = 0 :: p := by
        show 0 :: (p.take p.length ++ List.replicate (p.length - p.length) 0) = _
        rw [List.take_length, Nat.sub_self]; simp
      rw [e1, e2] at t1
      refine std_seq (ρ1 := ρ0 (0 :: p)) (std_for (js := [3, 4]) (ρs := fun i => ρ0 (if i < 2 then List.replicate (p.length + 1) 0 else 0 :: p)) (itd_enum false (ds := [fr 0, fr 1]) (evds_cons (EvD.is (evd_var (i := 0) rfl) rfl) evds_nil)) fun i d hd => ?_) ?_
      · have hi : (i = 0 ∧ d = .tuple [.int (0 : Nat), fr 0]) ∨ (i = 1 ∧ d = .tuple [.int (1 : Nat), fr 1]) := by
          match i, hd with
          | 0, hd => cases hd; exact .inl ⟨rfl, rfl⟩
          | 1, hd => cases hd; exact .inr ⟨rfl, rfl⟩
          | _ + 2, hd => cases hd
        rcases hi with ⟨rfl, rfl⟩ | ⟨rfl, rfl⟩
        · exact ⟨_, tgd_tup2 tgd_name tgd_name, t0⟩
        · exact ⟨_, tgd_tup2 tgd_name tgd_name, t1⟩
      · exact std_share (i := 2) rfl (std_ret (evd_call (evds_cons (evd_var (i := 2) rfl) evds_nil) (c_trimL (by simp; omega))))
theorem c_pplus {p q : List Rat} (hp : SmL p) (hq : SmL q) : fPplus [pl p, pl q] (pl (padd p q)) := ⟨p, q, rfl, hp, hq, rfl⟩
theorem c_pscale {p : List Rat} {x : Rat} (hp : SmL p) (hx : Sm 4000 x) : fPscale [pl p, fr x] (pl (pscale x p)) := ⟨p, x, rfl, hp, hx, rfl⟩
theorem c_pstep {p : List Rat} (hp : SmL p) : fPstep [pl [0, 1], pl p] (pl (pstep p)) := ⟨p, rfl, hp, rfl⟩
end
end K37
namespace K37
open PySem PySem.Spec L2
local macro_rules | `(tactic| walk_at "sz") => `(tactic| first | assumption | decide | omega)
local macro_rules | `(tactic| walk_at "call") => `(tactic| fail "no call")
local macro_rules | `(tactic| walk_at "cb") => `(tactic| first
  | with_reducible exact gcd_D | with_reducible exact len_T | with_reducible exact len_L | with_reducible exact tuple_L | with_reducible exact tuple_T | with_reducible exact max_D | with_reducible exact min_D | with_reducible exact abs_D
  | with_reducible exact int_D | with_reducible exact int_B)
local macro_rules | `(tactic| walk_at "op") => `(tactic| first
  | with_reducible exact minus_int | with_reducible exact plus_int | ((with_reducible apply times_int); walk_at "sz") | ((with_reducible apply ix_tupD); exact rfl) | ((with_reducible apply ix_lstD); exact rfl)
  | with_reducible exact lt_intD | with_reducible exact le_intD | with_reducible exact gt_intD | with_reducible exact ge_intD
  | ((with_reducible apply eq_D) <;> first | exact rfl | exact fr_shaped _ | assumption) | ((with_reducible apply ne_D) <;> first | exact rfl | exact fr_shaped _ | assumption)
  | ((with_reducible apply fdiv_int); walk_at "sz") | ((with_reducible apply fmod_int); walk_at "sz")
  | ((with_reducible apply plus_tup); walk_at "sz") | ((with_reducible apply plus_lst); walk_at "sz"))
local macro_rules | `(tactic| walk_at "evs") => `(tactic| first
  | with_reducible exact evds_nil
  | ((with_reducible apply evds_cons); (· walk_at "ev"); (· walk_at "evs")))
local macro_rules | `(tactic| walk_at "ev") => `(tactic| first
  | assumption
  | ((with_reducible apply evd_var); exact rfl)
  | with_reducible exact evd_int | with_reducible exact evd_cst | with_reducible exact evd_non | with_reducible exact evd_bl
  | ((with_reducible apply evd_op); (· walk_at "ev"); (· walk_at "ev"); (· walk_at "op"))
  | ((with_reducible apply evd_un); (· walk_at "ev"); (· with_reducible exact neg_intD))
  | ((with_reducible apply evd_call); (· walk_at "evs"); (· walk_at "call"))
  | ((with_reducible apply evd_cb); (· walk_at "evs"); (· walk_at "cb"))
  | ((with_reducible apply evd_tup); (· walk_at "evs"); (· exact Nat.le_of_ble_eq_true rfl))
  | ((with_reducible apply evd_isN); walk_at "ev") | ((with_reducible apply evd_notN); walk_at "ev")
  | ((with_reducible apply evd_not); walk_at "ev"))
local macro_rules | `(tactic| walk_at "te") => `(tactic| first
  | ((with_reducible apply ted_test); walk_at "ev") | ((with_reducible apply ted_B); walk_at "ev") | ((with_reducible apply ted_not); walk_at "te"))

/-! ### two places, as data -/
abbrev vt (v : Vc) : PyData := .tuple [fr v.1, fr v.2]
abbrev mt (N : Mx) : PyData := .tuple [vt N.1, vt N.2]
theorem bq_self (x : Rat) : Bq x.den x.num.natAbs x := ⟨x.num, (Rat.num_divInt_den x).symm, Nat.le_refl _⟩
theorem Sm.mul {a b : Nat} {x y : Rat} (h : Sm a x) (g : Sm b y) : Sm (a + b) (x * y) := by
  refine ((bq_self x).mul (bq_self y)).sm (Nat.mul_pos (den_pos x) (den_pos y)) ?_ ?_
  · rw [Nat.pow_add]; exact Nat.mul_lt_mul'' h.2 g.2
  · rw [Nat.pow_add]; exact Nat.mul_lt_mul'' h.1 g.1
theorem Sm.add {a b : Nat} {x y : Rat} (h : Sm a x) (g : Sm b y) : Sm (a + b + 1) (x + y) := by
  have h1 := (bq_self x).up y.den (den_pos y)
  have h2 := (bq_self y).up x.den (den_pos x)
  rw [Nat.mul_comm y.den x.den] at h2
  refine (h1.add (Nat.mul_pos (den_pos x) (den_pos y)) h2).sm (Nat.mul_pos (den_pos x) (den_pos y)) ?_ ?_
  · have : x.den * y.den < 2 ^ a * 2 ^ b := Nat.mul_lt_mul'' h.2 g.2
    rw [Nat.pow_succ, Nat.pow_add]; omega
  · have e1 : x.num.natAbs * y.den < 2 ^ a * 2 ^ b := Nat.mul_lt_mul'' h.1 g.2
    have e2 : y.num.natAbs * x.den < 2 ^ a * 2 ^ b := by rw [Nat.mul_comm]; exact Nat.mul_lt_mul'' h.2 g.1
    rw [Nat.pow_succ, Nat.pow_add]; omega
theorem Sm.mono {a b : Nat} {x : Rat} (h : Sm a x) (l : a ≤ b) : Sm b x := ⟨Nat.lt_of_lt_of_le h.1 (Nat.pow_le_pow_right (by decide) l), Nat.lt_of_lt_of_le h.2 (Nat.pow_le_pow_right (by decide) l)⟩
theorem Sm.neg {a : Nat} {x : Rat} (h : Sm a x) : Sm a (-x) := ⟨by rw [Rat.neg_num, Int.natAbs_neg]; exact h.1, by rw [Rat.neg_den]; exact h.2⟩
def SmV (a : Nat) (v : Vc) : Prop := Sm a v.1 ∧ Sm a v.2
def SmM (a : Nat) (N : Mx) : Prop := SmV a N.1 ∧ SmV a N.2
theorem SmV.mono {a b : Nat} {v : Vc} (h : SmV a v) (l : a ≤ b) : SmV b v := ⟨h.1.mono l, h.2.mono l⟩
theorem sm_dot {a b : Nat} {r v : Vc} (h : SmV a r) (g : SmV b v) : Sm (a + b + (a + b) + 1) (vdot r v) := (h.1.mul g.1).add (h.2.mul g.2)
theorem sm_mv {a b : Nat} {N : Mx} {v : Vc} (h : SmM a N) (g : SmV b v) : SmV (a + b + (a + b) + 1) (mv N v) := ⟨sm_dot h.1 g, sm_dot h.2 g⟩
theorem sm_vsc {a b : Nat} {x : Rat} {v : Vc} (h : Sm a x) (g : SmV b v) : SmV (b + a) (vsc x v) := ⟨g.1.mul h, g.2.mul h⟩
theorem sm_nat {n k : Nat} (h : k < 2 ^ n) (h1 : 0 < n) : Sm n (k : Rat) := by
  have := (Bq.int (k : Int)).sm (n := n) (by decide) (Nat.one_lt_two_pow (by omega)) (by simpa using h)
  exact this
theorem any_last2 (a b c d e : Sl) : ∀ (i : Nat) (s : Sl), [a, b, c, Sl.any, .any][i]? = some s → s = .any ∨ [a, b, c, d, e][i]? = some s := fun i s h => by
  match i, h with
  | 0, h => exact .inr h
  | 1, h => exact .inr h
  | 2, h => exact .inr h
  | 3, h => exact .inl (Option.some.inj h).symm
  | 4, h => exact .inl (Option.some.inj h).symm
  | _ + 5, h => cases h
def fDot (ds : List PyData) (d : PyData) : Prop := ∃ r v : Vc, ds = [vt r, vt v] ∧ SmV 1990 r ∧ SmV 1990 v ∧ Sm 1990 (r.1 * v.1) ∧ Sm 1990 (r.2 * v.2) ∧ d = fr (vdot r v)
def fApplied (ds : List PyData) (d : PyData) : Prop := ∃ (N : Mx) (v : Vc), ds = [mt N, vt v] ∧ SmM 5 N ∧ SmV 1985 v ∧ d = vt (mv N v)
def fMoved (ds : List PyData) (d : PyData) : Prop := ∃ (N : Mx) (x : Rat) (v : Vc), ds = [mt N, fr x, vt v] ∧ SmM 5 N ∧ NilM N ∧ Sm 100 x ∧ SmV 900 v ∧ d = vt (movV N x v)
section
variable {P : Program} {w : World} {K : PySem.W.Frag} {mg : Str → Option Value} {base : Heap} {T : Tb}
local macro_rules | `(tactic| walk_at "call") => `(tactic| with_reducible exact c_whole)
local macro_rules | `(tactic| walk_at "call") => `(tactic| ((with_reducible apply c_plus) <;> walk_at "sz"))
local macro_rules | `(tactic| walk_at "call") => `(tactic| ((with_reducible apply c_times) <;> walk_at "sz"))
local macro_rules | `(tactic| walk_at "call") => `(tactic| ((with_reducible apply c_over) <;> walk_at "sz"))
theorem ne_num (x : Rat) : (!PyData.eqv (.int x.num) (.int 0)) = !decide (x = 0) := by
  rw [eqv_int]
  congr 1
  exact decide_eq_decide.mpr num_zero
theorem plus0_mul {t x y : Rat} : (if (!decide (x = 0) && !decide (y = 0)) = true then t + x * y else t) = t + x * y := by
  by_cases hx : x = 0
  · subst hx; simp [Rat.zero_mul, Rat.add_zero]
  · by_cases hy : y = 0
    · subst hy; simp [Rat.mul_zero, Rat.add_zero]
    · simp [hx, hy]
theorem sc_dot : FnScope ["row", "other", "total", "x", "y"] ["row", "other"] (defScope (top 19)) := ⟨rfl, rfl, rfl, by decide +kernel, rfl, by decide +kernel, by decide +kernel⟩
theorem d_dot (C : CT P w K mg base T) : Df P w K mg base "dot" 3 ["row", "other"] (spF T K fDot) := by
  refine df_of C (i := 13) (x := "dot") (N := ["row", "other", "total", "x", "y"]) (n := 3) rfl sc_dot (fun _ _ _ _ _ _ us hl => match us, hl with | [_, _], _ => rfl) ?_ rfl fun cdv A outer s H E fa hr => ⟨_, (pss_cons (ps_set (i := 2) sc_dot.nd rfl (by first | exact Or.inl rfl | exact Or.inr rfl) (pe_cstK K rfl (by rfl) (C.cst 0 _ rfl)))
  (pss_cons (ps_for PassesOwn.never rfl (pi_zipX K rfl (by rfl) (C.free 17 _ rfl) (pa_cons (pv 0) (pa_cons (pv 1) pa_nil))) (pg_tupK K rfl (n := 2) rfl (pgs_cons (pg_name (i := 3) sc_dot.nd rfl (by first | exact Or.inl rfl | exact Or.inr rfl)) (pgs_cons (pg_name (i := 4) sc_dot.nd rfl (by first | exact Or.inl rfl | exact Or.inr rfl)) pgs_nil))) (pss_one (ps_if (PW.pt (pw_and (pt_cmpR (op_neK K rfl hr.units) (pe_ix (ix_seqK K rfl) (pv 3) pe_int (fun _ _ => rfl)) pe_int (nomark _)) (pw_and1 (pt_cmpR (op_neK K rfl hr.units) (pe_ix (ix_seqK K rfl) (pv 4) pe_int (fun _ _ => rfl)) pe_int (nomark _))))) (pss_one (ps_set (i := 2) sc_dot.nd rfl (by first | exact Or.inl rfl | exact Or.inr rfl) (pe_dfK (d_plus C) rfl rfl rfl rfl rfl hr (by rfl) (pa_cons (pv 2) (pa_cons (pe_dfK (d_times C) rfl rfl rfl rfl rfl hr (by rfl) (pa_cons (pv 3) (pa_cons (pv 4) pa_nil))) pa_nil))))) pss_nil)))
  (pss_one (ps_ret (pv 2))))), ?_⟩
  · rintro _ _ ⟨r, v, rfl, hr, hv, h1, h2, rfl⟩
    rfl
  · rintro _ _ ⟨r, v, rfl, hr, hv, h1, h2, rfl⟩
    have step : ∀ (t x y : Rat), Sm 4000 t → Sm 4000 x → Sm 4000 y → Sm 4000 (x * y) → StD T K (tIfS (tAnd (tTest (tOp (rNeD K) (tOp (rIx K) (tVar 3) (tC (.int 0))) (tC (.int 0)))) (tTest (tOp (rNeD K) (tOp (rIx K) (tVar 4) (tC (.int 0))) (tC (.int 0)))))
        (tAsg (tCall (spF T K fPlus) [] E0 (tCons (tVar 2) (tCons (tCall (spF T K fTimes) [] E0 (tCons (tVar 3) (tCons (tVar 4) tNil))) tNil))) (gName 2)) tNext) [.dat (vt r), .dat (vt v), .dat (fr t), .dat (fr x), .dat (fr y)] (.nx [.dat (vt r), .dat (vt v), .dat (fr (t + x * y)), .dat (fr x), .dat (fr y)]) := fun t x y ht hx hy hxy => by
      have te : TeD T K (tAnd (tTest (tOp (rNeD K) (tOp (rIx K) (tVar 3) (tC (.int 0))) (tC (.int 0)))) (tTest (tOp (rNeD K) (tOp (rIx K) (tVar 4) (tC (.int 0))) (tC (.int 0))))) [.dat (vt r), .dat (vt v), .dat (fr t), .dat (fr x), .dat (fr y)] (!decide (x = 0) && !decide (y = 0)) :=
        TeD.is (ted_and (by walk_at "te") fun _ => by walk_at "te") (by rw [ne_num, ne_num])
      rw [← plus0_mul (t := t) (x := x) (y := y)]
      refine std_if te (fun h => ?_) fun h => ?_
      · rw [if_pos h]
        exact std_asg (by walk_at "ev")
      · rw [if_neg (by rw [h]; simp)]
        exact std_next
    have v1 := hv.1.mono (show 1990 ≤ 4000 by decide)
    have v2 := hv.2.mono (show 1990 ≤ 4000 by decide)
    have r1 := hr.1.mono (show 1990 ≤ 4000 by decide)
    have r2 := hr.2.mono (show 1990 ≤ 4000 by decide)
    have p1 := h1.mono (show 1990 ≤ 4000 by decide)
    have p2 := h2.mono (show 1990 ≤ 4000 by decide)
    have z1 : (0 : Rat) + r.1 * v.1 = r.1 * v.1 := Rat.zero_add _
    have s1 := step 0 r.1 v.1 sm0 r1 v1 p1
    have s2 := step (0 + r.1 * v.1) r.2 v.2 (by rw [z1]; exact p1) r2 v2 p2
    rw [z1] at s1 s2
    refine std_seq (ρ1 := [.dat (vt r), .dat (vt v), .dat (fr 0), .any, .any]) (std_asg evd_cst) ?_
    refine std_seq (ρ1 := [.dat (vt r), .dat (vt v), .dat (fr (vdot r v)), .any, .any]) ?_ (std_ret (by walk_at "ev"))
    refine std_weakN (ρ1 := [.dat (vt r), .dat (vt v), .dat (fr (vdot r v)), .dat (fr r.2), .dat (fr v.2)]) ?_ rfl (any_last2 _ _ _ _ _)
    have full := std_for (T := T) (K := K) (js := [3, 4]) (g := gTup K 2 (gCons (gName 3) (gCons (gName 4) gNil))) (wi := iZipX K (tCons (tVar 0) (tCons (tVar 1) tNil)))
      (ρs := fun i => match i with | 0 => [.dat (vt r), .dat (vt v), .dat (fr 0), .any, .any] | 1 => [.dat (vt r), .dat (vt v), .dat (fr (r.1 * v.1)), .dat (fr r.1), .dat (fr v.1)] | _ => [.dat (vt r), .dat (vt v), .dat (fr (vdot r v)), .dat (fr r.2), .dat (fr v.2)])
      (tb := (tIfS (tAnd (tTest (tOp (rNeD K) (tOp (rIx K) (tVar 3) (tC (.int 0))) (tC (.int 0)))) (tTest (tOp (rNeD K) (tOp (rIx K) (tVar 4) (tC (.int 0))) (tC (.int 0)))))
        (tAsg (tCall (spF T K fPlus) [] E0 (tCons (tVar 2) (tCons (tCall (spF T K fTimes) [] E0 (tCons (tVar 3) (tCons (tVar 4) tNil))) tNil))) (gName 2)) tNext)) (itd_zip false false (ds := [fr r.1, fr r.2]) (es := [fr v.1, fr v.2]) (evds_cons (EvD.is (evd_var (i := 0) rfl) rfl) (evds_cons (EvD.is (evd_var (i := 1) rfl) rfl) evds_nil))) fun i d hd => ?_
    · exact full
    · match i, hd with
      | 0, hd => cases hd; exact ⟨_, tgd_tup2 tgd_name tgd_name, s1⟩
      | 1, hd => cases hd; exact ⟨_, tgd_tup2 tgd_name tgd_name, s2⟩
      | _ + 2, hd => cases hd
theorem c_dot {r v : Vc} (h1 : SmV 5 r) (h2 : SmV 1985 v) : fDot [vt r, vt v] (fr (vdot r v)) := ⟨r, v, rfl, h1.mono (by decide), h2.mono (by decide), (h1.1.mul h2.1).mono (by decide), (h1.2.mul h2.2).mono (by decide), rfl⟩
theorem two_get {α : Type} {f : α → PyData} {a b : α} {i : Nat} {d : PyData} (h : [f a, f b][i]? = some d) : (i = 0 ∧ d = f a) ∨ (i = 1 ∧ d = f b) := by
  match i, h with
  | 0, h => cases h; exact .inl ⟨rfl, rfl⟩
  | 1, h => cases h; exact .inr ⟨rfl, rfl⟩
  | _ + 2, h => cases h
theorem sc_applied : FnScope ["matrix", "row", "own"] ["matrix", "row"] (defScope (top 20)) := ⟨rfl, rfl, rfl, by decide +kernel, rfl, by decide +kernel, by decide +kernel⟩
theorem d_applied (C : CT P w K mg base T) : Df P w K mg base "applied" 4 ["matrix", "row"] (spF T K fApplied) := by
  refine df_of C (i := 14) (x := "applied") (N := ["matrix", "row", "own"]) (n := 1) rfl sc_applied (fun _ _ _ _ _ _ us hl => match us, hl with | [_, _], _ => rfl) ?_ rfl fun cdv A outer s H E fa hr => ⟨_, (pss_one (ps_ret (pe_callTy (call_tupleK K rfl) (by rfl) (C.free 16 _ rfl) (by decide +kernel) (pa_cons (pe_lc rfl sc_applied.nd (pi_seqK K rfl (pv 0)) (blkOk_by (own := [("own", 2)]) (by kernel_rfl)) (fun _ _ _ _ _ => (pg_name (i := 2) sc_applied.nd rfl (by first | exact Or.inl rfl | exact Or.inr rfl))) (fun _ _ _ _ _ => pts_nil) (fun _ _ _ _ _ => (pe_dfK (d_dot C) rfl rfl rfl rfl rfl hr (by rfl) (pa_cons (pv 2) (pa_cons (pv 1) pa_nil))))) pa_nil)))), ?_⟩
  · rintro _ _ ⟨N, v, rfl, hN, hv, rfl⟩
    rfl
  · rintro _ _ ⟨N, v, rfl, hN, hv, rfl⟩
    refine std_ret (evd_cb (evds_cons (evf_lc (js := [2]) [fr (vdot N.1 v), fr (vdot N.2 v)] (itd_T (ds := [vt N.1, vt N.2]) (by walk_at "ev")) (by decide) rfl (Nat.le_of_ble_eq_true rfl) fun i d e hd he => ?_).ev evds_nil) tuple_L)
    rcases two_get hd with ⟨rfl, rfl⟩ | ⟨rfl, rfl⟩
    · cases he
      exact ⟨_, tgd_name, evd_call (by walk_at "evs") (c_dot hN.1 hv)⟩
    · cases he
      exact ⟨_, tgd_name, evd_call (by walk_at "evs") (c_dot hN.2 hv)⟩
theorem c_applied {N : Mx} {v : Vc} (hN : SmM 5 N) (hv : SmV 1985 v) : fApplied [mt N, vt v] (vt (mv N v)) := ⟨N, v, rfl, hN, hv, rfl⟩
local macro_rules | `(tactic| walk_at "call") => `(tactic| ((with_reducible apply c_applied) <;> walk_at "sz"))
theorem int_ne (k : Nat) : ((((k + 1 : Nat) : Int) : Rat)) ≠ 0 := fun h => by
  have : ((k + 1 : Nat) : Int) = 0 := Rat.intCast_inj.mp h
  omega
/-- one turn of _moved's loop -/
theorem moved_turn {N : Mx} {x : Rat} {v t u : Vc} {k : Nat} (hN : SmM 5 N) (hx : Sm 4000 x) (ht : SmV 1985 t) (hu : SmV 4000 u) (hk : k < 10) (h3 : SmV 4000 (mv N t)) (h4 : Sm 4000 (x / (((k + 1 : Nat) : Int) : Rat))) (h5 : SmV 4000 (vsc (x / (((k + 1 : Nat) : Int) : Rat)) (mv N t))) {tb1 tb2 tb3 : TS}
    (e1 : tb1 = tAug 5 (tC (.int 1)) (ipI (· + ·)))
    (e2 : tb2 = tAsg (tCB (rTupO K) (tCons (tLc (iSeq K (tCall (spF T K fApplied) [] E0 (tCons (tVar 0) (tCons (tVar 3) tNil)))) (gName 6) tYes (tCall (spF T K fTimes) [] E0 (tCons (tVar 6) (tCons (tCall (spF T K fOver) [] E0 (tCons (tVar 1) (tCons (tCall (spF T K fWhole) [] E0 (tCons (tVar 5) tNil)) tNil))) tNil))) [6]) tNil)) (gName 3))
    (e3 : tb3 = tAsg (tCB (rTupO K) (tCons (tLc (iZipX K (tCons (tVar 4) (tCons (tVar 3) tNil))) (gTup K 2 (gCons (gName 7) (gCons (gName 8) gNil))) tYes (tCall (spF T K fPlus) [] E0 (tCons (tVar 7) (tCons (tVar 8) tNil))) [7, 8]) tNil)) (gName 4)) :
    StD T K (tSeq tb1 (tSeq tb2 tb3)) [.dat (mt N), .dat (fr x), .dat (vt v), .dat (vt t), .dat (vt u), .dat (.int (k : Nat)), .any, .any, .any]
      (.nx [.dat (mt N), .dat (fr x), .dat (vt v), .dat (vt (vsc (x / (((k + 1 : Nat) : Int) : Rat)) (mv N t))), .dat (vt (vad u (vsc (x / (((k + 1 : Nat) : Int) : Rat)) (mv N t)))), .dat (.int ((k + 1 : Nat) : Int)), .any, .any, .any]) := by
  subst e1 e2 e3
  have ek : ((k : Nat) : Int) + 1 = ((k + 1 : Nat) : Int) := by omega
  have h0 := int_ne k
  have sk : Sm 4000 ((((k + 1 : Nat) : Int) : Rat)) := by
    have := (Bq.int ((k + 1 : Nat) : Int)).sm (n := 4000) (by decide) (p4000 (by decide)) (p4000 (by simp; omega))
    exact this
  refine std_seq (std_aug (i := 5) rfl evd_int) ?_
  rw [ek]
  refine std_seq (std_asg (d := vt (vsc (x / (((k + 1 : Nat) : Int) : Rat)) (mv N t))) (evd_cb (evds_cons (evf_lc (js := [6]) [fr ((mv N t).1 * (x / (((k + 1 : Nat) : Int) : Rat))), fr ((mv N t).2 * (x / (((k + 1 : Nat) : Int) : Rat)))] (itd_T (ds := [fr (mv N t).1, fr (mv N t).2]) (by walk_at "ev")) (by decide) rfl (Nat.le_of_ble_eq_true rfl) fun i d e hd he => ?_).ev evds_nil) tuple_L)) ?_
  · have s1 := h3.1
    have s2 := h3.2
    rcases two_get hd with ⟨rfl, rfl⟩ | ⟨rfl, rfl⟩
    · cases he
      exact ⟨_, tgd_name, by walk_at "ev"⟩
    · cases he
      exact ⟨_, tgd_name, by walk_at "ev"⟩
  · refine std_asg (d := vt (vad u (vsc (x / (((k + 1 : Nat) : Int) : Rat)) (mv N t)))) (evd_cb (evds_cons (evf_lc (js := [7, 8]) [fr (u.1 + (vsc (x / (((k + 1 : Nat) : Int) : Rat)) (mv N t)).1), fr (u.2 + (vsc (x / (((k + 1 : Nat) : Int) : Rat)) (mv N t)).2)] (itd_zip false false (ds := [fr u.1, fr u.2]) (es := [fr (vsc (x / (((k + 1 : Nat) : Int) : Rat)) (mv N t)).1, fr (vsc (x / (((k + 1 : Nat) : Int) : Rat)) (mv N t)).2]) (evds_cons (EvD.is (evd_var (i := 4) rfl) rfl) (evds_cons (EvD.is (evd_var (i := 3) rfl) rfl) evds_nil))) (by decide) rfl (Nat.le_of_ble_eq_true rfl) fun i d e hd he => ?_).ev evds_nil) tuple_L)
    have s1 := h5.1
    have s2 := h5.2
    have s3 := hu.1
    have s4 := hu.2
    match i, hd, he with
    | 0, hd, he => cases hd; cases he; exact ⟨_, tgd_tup2 tgd_name tgd_name, by walk_at "ev"⟩
    | 1, hd, he => cases hd; cases he; exact ⟨_, tgd_tup2 tgd_name tgd_name, by walk_at "ev"⟩
    | _ + 2, hd, he => cases hd
theorem moved_test {a b c : PyData} {t : Vc} {d e : PyData} : TeD T K (tTest (tCB (rAny K) (tCons (tLc (iSeq K (tVar 3)) (gName 6) tYes (tOp (rNeD K) (tVar 6) (tCst K (fr 0))) [6]) tNil))) [.dat a, .dat b, .dat c, .dat (vt t), .dat d, .dat e, .any, .any, .any] (decide (t ≠ (0, 0))) := by
  refine TeD.is (ted_test (evd_cb (evds_cons (EvF.is (evf_lc (js := [6]) [.bool (!decide (t.1 = 0)), .bool (!decide (t.2 = 0))] (itd_T (ds := [fr t.1, fr t.2]) (by walk_at "ev")) (by decide) rfl (Nat.le_of_ble_eq_true rfl) fun i d e hd he => ?_) (rfl : _ = [!decide (t.1 = 0), !decide (t.2 = 0)].map PyData.bool)).ev evds_nil) any_D)) ?_
  · rcases two_get hd with ⟨rfl, rfl⟩ | ⟨rfl, rfl⟩
    · cases he
      exact ⟨_, tgd_name, EvD.is (evd_op (evd_var rfl) evd_cst (ne_D (fr_shaped _) (fr_shaped _))) (by rw [fr_eqv])⟩
    · cases he
      exact ⟨_, tgd_name, EvD.is (evd_op (evd_var rfl) evd_cst (ne_D (fr_shaped _) (fr_shaped _))) (by rw [fr_eqv])⟩
  · obtain ⟨t1, t2⟩ := t
    by_cases h1 : t1 = 0 <;> by_cases h2 : t2 = 0 <;> simp [h1, h2]
theorem sc__moved : FnScope ["matrix", "x", "state", "term", "total", "many", "y", "near", "far"] ["matrix", "x", "state"] (defScope (top 62)) := ⟨rfl, rfl, rfl, by decide +kernel, rfl, by decide +kernel, by decide +kernel⟩
theorem d_moved (C : CT P w K mg base T) : Df P w K mg base "_moved" 5 ["matrix", "x", "state"] (spF T K fMoved) := by
  refine df_of C (i := 45) (x := "_moved") (N := ["matrix", "x", "state", "term", "total", "many", "y", "near", "far"]) (n := 6) rfl sc__moved (fun _ _ _ _ _ _ us hl => match us, hl with | [_, _, _], _ => rfl) ?_ rfl fun cdv A outer s H E fa hr => ⟨_, (pss_cons (ps_asg (pe_tup (pa_cons (pv 2) (pa_cons (pv 2) (pa_cons pe_int pa_nil)))) (pg_tupK K rfl (n := 3) rfl (pgs_cons (pg_name (i := 3) sc__moved.nd rfl (by first | exact Or.inl rfl | exact Or.inr rfl)) (pgs_cons (pg_name (i := 4) sc__moved.nd rfl (by first | exact Or.inl rfl | exact Or.inr rfl)) (pgs_cons (pg_name (i := 5) sc__moved.nd rfl (by first | exact Or.inl rfl | exact Or.inr rfl)) pgs_nil)))))
  (pss_cons (ps_while PassesOwn.never (pt_val (pe_callB (cr_anyK K rfl rfl) (by rfl) (C.free 2 _ rfl) (by decide +kernel) (pa_cons (pe_lc rfl sc__moved.nd (pi_seqK K rfl (pv 3)) (blkOk_by (own := [("y", 6)]) (by kernel_rfl)) (fun _ _ _ _ _ => (pg_name (i := 6) sc__moved.nd rfl (by first | exact Or.inl rfl | exact Or.inr rfl))) (fun _ _ _ _ _ => pts_nil) (fun _ _ _ _ _ => (pe_cmpR (op_neK K rfl hr.units) (pv 6) (pe_cstK K rfl (by rfl) (C.cst 3 _ rfl)) (nomark _)))) pa_nil))) (pss_cons (ps_aug (i := 5) sc__moved.nd rfl (by first | exact Or.inl rfl | exact Or.inr rfl) pe_int ip_add)
  (pss_cons (ps_set (i := 3) sc__moved.nd rfl (by first | exact Or.inl rfl | exact Or.inr rfl) (pe_callTy (call_tupleK K rfl) (by rfl) (C.free 16 _ rfl) (by decide +kernel) (pa_cons (pe_lc rfl sc__moved.nd (pi_seqK K rfl (pe_dfK (d_applied C) rfl rfl rfl rfl rfl hr (by rfl) (pa_cons (pv 0) (pa_cons (pv 3) pa_nil)))) (blkOk_by (own := [("y", 6)]) (by kernel_rfl)) (fun _ _ _ _ _ => (pg_name (i := 6) sc__moved.nd rfl (by first | exact Or.inl rfl | exact Or.inr rfl))) (fun _ _ _ _ _ => pts_nil) (fun _ _ _ _ _ => (pe_dfK (d_times C) rfl rfl rfl rfl rfl hr (by rfl) (pa_cons (pv 6) (pa_cons (pe_dfK (d_over C) rfl rfl rfl rfl rfl hr (by rfl) (pa_cons (pv 1) (pa_cons (pe_dfK (d_whole C) rfl rfl rfl rfl rfl hr (by rfl) (pa_cons (pv 5) pa_nil)) pa_nil))) pa_nil))))) pa_nil)))
  (pss_one (ps_set (i := 4) sc__moved.nd rfl (by first | exact Or.inl rfl | exact Or.inr rfl) (pe_callTy (call_tupleK K rfl) (by rfl) (C.free 16 _ rfl) (by decide +kernel) (pa_cons (pe_lc rfl sc__moved.nd (pi_zipX K rfl (by rfl) (C.free 17 _ rfl) (pa_cons (pv 4) (pa_cons (pv 3) pa_nil))) (blkOk_by (own := [("near", 7), ("far", 8)]) (by kernel_rfl)) (fun _ _ _ _ _ => (pg_tupK K rfl (n := 2) rfl (pgs_cons (pg_name (i := 7) sc__moved.nd rfl (by first | exact Or.inl rfl | exact Or.inr rfl)) (pgs_cons (pg_name (i := 8) sc__moved.nd rfl (by first | exact Or.inl rfl | exact Or.inr rfl)) pgs_nil)))) (fun _ _ _ _ _ => pts_nil) (fun _ _ _ _ _ => (pe_dfK (d_plus C) rfl rfl rfl rfl rfl hr (by rfl) (pa_cons (pv 7) (pa_cons (pv 8) pa_nil))))) pa_nil)))))))
  (pss_one (ps_ret (pv 4))))), ?_⟩
  · rintro _ _ ⟨N, x, v, rfl, hN, hnil, hx, hv, rfl⟩
    rfl
  · rintro _ _ ⟨N, x, v, rfl, hN, hnil, hx, hv, rfl⟩
    let ρ : Vc → Vc → Nat → List Sl := fun t u k => [.dat (mt N), .dat (fr x), .dat (vt v), .dat (vt t), .dat (vt u), .dat (.int (k : Nat)), .any, .any, .any]
    have x4 := hx.mono (show 100 ≤ 4000 by decide)
    have v4 := hv.mono (show 900 ≤ 4000 by decide)
    have m1 := sm_mv hN hv
    have d1 : x / (((0 + 1 : Nat) : Int) : Rat) = x := by
      have : (((0 + 1 : Nat) : Int) : Rat) = 1 := rfl
      rw [this, Rat.div_def]
      have : (1 : Rat)⁻¹ = 1 := by decide +kernel
      rw [this, Rat.mul_one]
    have t1s := sm_vsc hx m1
    have T1 := moved_turn (T := T) (K := K) (v := v) (u := v) (k := 0) hN x4 (hv.mono (by decide)) v4 (by decide) (m1.mono (by decide)) (by rw [d1]; exact x4) (by rw [d1]; exact t1s.mono (by decide)) rfl rfl rfl
    rw [d1] at T1
    have nil2 : mv N (vsc x (mv N v)) = (0, 0) := by rw [mv_sc, hnil v, vsc_zero]
    have s2 : Sm 4000 (x / (((1 + 1 : Nat) : Int) : Rat)) := by
      have : x / (((1 + 1 : Nat) : Int) : Rat) = x * (Rat.divInt 1 2) := by
        rw [Rat.div_def]
        congr 1
        decide +kernel
      rw [this]
      have h2 : Sm 2 (Rat.divInt 1 2) := by unfold Sm; decide +kernel
      exact (hx.mul h2).mono (by decide)
    have z4 : SmV 4000 (0, 0) := ⟨sm0, sm0⟩
    have T2 := moved_turn (T := T) (K := K) (v := v) (t := vsc x (mv N v)) (u := vad v (vsc x (mv N v))) (k := 1) hN x4 (t1s.mono (by decide)) ⟨(hv.1.add t1s.1).mono (by decide), (hv.2.add t1s.2).mono (by decide)⟩ (by decide) (by rw [nil2]; exact z4) s2 (by rw [nil2, vsc_zero]; exact z4) rfl rfl rfl
    rw [nil2, vsc_zero, vad_zero] at T2
    refine std_seq (ρ1 := ρ v v 0) (std_asgG (d := .tuple [vt v, vt v, .int ((0 : Nat) : Int)]) (evd_tup (evds_cons (evd_var rfl) (evds_cons (evd_var rfl) (evds_cons evd_int evds_nil))) (Nat.le_of_ble_eq_true rfl)) (tgd_tup3 tgd_name tgd_name tgd_name)) ?_
    refine std_seq (ρ1 := [.dat (mt N), .dat (fr x), .dat (vt v), .any, .dat (vt (movV N x v)), .any, .any, .any, .any]) ?_ (std_ret (by walk_at "ev"))
    have weak : ∀ t k, ∀ (i : Nat) (s : Sl), [Sl.dat (mt N), .dat (fr x), .dat (vt v), .any, .dat (vt (movV N x v)), .any, .any, .any, .any][i]? = some s → s = .any ∨ (ρ t (movV N x v) k)[i]? = some s := fun t k i s h => by
      match i, h with
      | 0, h => exact .inr h
      | 1, h => exact .inr h
      | 2, h => exact .inr h
      | 3, h => exact .inl (Option.some.inj h).symm
      | 4, h => exact .inr h
      | 5, h => exact .inl (Option.some.inj h).symm
      | 6, h => exact .inl (Option.some.inj h).symm
      | 7, h => exact .inl (Option.some.inj h).symm
      | 8, h => exact .inl (Option.some.inj h).symm
      | _ + 9, h => cases h
    by_cases c0 : v = (0, 0)
    · have e : movV N x v = v := by
        unfold movV
        rw [c0, mv_zero, vsc_zero, vad_zero]
      refine std_weakN (std_wh (ρ2 := ρ v (movV N x v) 0) ?_) rfl (weak _ _)
      rw [e]
      exact .stop (TeD.is moved_test (by simp [c0]))
    · by_cases c1 : vsc x (mv N v) = (0, 0)
      · refine std_weakN (std_wh (ρ2 := ρ (vsc x (mv N v)) (movV N x v) 1) ?_) rfl (weak _ _)
        exact .more (TeD.is moved_test (by simp [c0])) T1 (.stop (TeD.is moved_test (by simp [c1])))
      · refine std_weakN (std_wh (ρ2 := ρ (0, 0) (movV N x v) 2) ?_) rfl (weak _ _)
        exact .more (TeD.is moved_test (by simp [c0])) T1 (.more (TeD.is moved_test (by simp [c1])) T2 (.stop (TeD.is moved_test (by simp))))
theorem c_moved {N : Mx} {x : Rat} {v : Vc} (h1 : SmM 5 N) (h2 : NilM N) (h3 : Sm 100 x) (h4 : SmV 900 v) : fMoved [mt N, fr x, vt v] (vt (movV N x v)) := ⟨N, x, v, rfl, h1, h2, h3, h4, rfl⟩
/-! ### flow_at -/
abbrev pt (Ns : List Mx) : PyData := .tuple (Ns.map mt)
def nm (Ns : List Mx) (p : Int) : Mx := Ns.getD p.toNat ((0, 0), (0, 0))
def flowE (Ns : List Mx) (h : Rat) (p : Int) (x : Rat) (v : Vc) : Vc := movV (nm Ns p) (x * h) v
structure FlowOk (Ns : List Mx) (h : Rat) (r : Row) (v : Vc) : Prop where
  few : Ns.length ≤ 10
  mats : ∀ N ∈ Ns, SmM 5 N ∧ NilM N
  parts : ∀ p ∈ r, 0 ≤ p.1 ∧ p.1.toNat < Ns.length
  len : r.length ≤ 500
  xs : ∀ p ∈ r, Sm 4000 p.2 ∧ Sm 100 (p.2 * h)
  sh : Sm 4000 h
  runs : ∀ i, i ≤ r.length → SmV 900 (act (flowE Ns h) (r.take i) v)
def fFlowAt (ds : List PyData) (d : PyData) : Prop := ∃ (Ns : List Mx) (h : Rat) (r : Row) (v : Vc), ds = [rw_ r, pt Ns, fr h, vt v] ∧ FlowOk Ns h r v ∧ d = vt (act (flowE Ns h) r v)
theorem tup_vt (v : Vc) : tupD (vt v) = vt v := by
  show PyData.tuple (tupDs [fr v.1, fr v.2]) = _
  simp only [tupDs, tup_fr]
theorem tup_mt (N : Mx) : tupD (mt N) = mt N := by
  show PyData.tuple (tupDs [vt N.1, vt N.2]) = _
  simp only [tupDs, tup_vt]
theorem dep_vt (v : Vc) : dep (vt v) = 2 := by simp [dep, deps]
theorem dep_mt (N : Mx) : dep (mt N) = 3 := by simp [dep, deps]
theorem ok_vt (v : Vc) : okD (vt v) = true := by simp [okD, okDs]
theorem ok_mt (N : Mx) : okD (mt N) = true := by simp [okD, okDs]
theorem c_tup_vt {v : Vc} : fTupleOf 7 [vt v] (vt v) := ⟨_, rfl, by rw [dep_vt]; omega, ok_vt v, (tup_vt v).symm⟩
theorem c_tup_pt {Ns : List Mx} (h : Ns.length ≤ 10) : fTupleOf 7 [pt Ns] (pt Ns) := by
  refine ⟨_, rfl, ?_, ?_, ?_⟩
  · have := deps_map mt (k := 3) (fun x => by rw [dep_mt]; omega) Ns
    show deps (Ns.map mt) + 1 ≤ 7
    omega
  · show (decide ((Ns.map mt).length ≤ 10000) && okDs (Ns.map mt)) = true
    rw [okDs_map mt ok_mt, List.length_map, decide_eq_true (by omega)]; rfl
  · show _ = PyData.tuple (tupDs (Ns.map mt))
    rw [tup_map mt tup_mt]
theorem act_take {V : Type} {E : Int → Rat → V → V} {r : Row} {i : Nat} {p : Int × Rat} (h : r[i]? = some p) (v : V) : act E (r.take (i + 1)) v = E p.1 p.2 (act E (r.take i) v) := by
  rw [List.take_add_one, h, act_append]; rfl
theorem nm_get {Ns : List Mx} {p : Int} (h0 : 0 ≤ p) (h : p.toNat < Ns.length) : atI (Ns.map mt) p = some (mt (nm Ns p)) := by
  have e : p = ((p.toNat : Nat) : Int) := by omega
  conv => lhs; rw [e]
  refine at_nat ?_
  rw [List.getElem?_map]
  unfold nm
  rw [List.getD_eq_getElem?_getD]; rw [List.getElem?_eq_getElem h]; rfl
local macro_rules | `(tactic| walk_at "call") => `(tactic| with_reducible exact c_tup_vt)
local macro_rules | `(tactic| walk_at "call") => `(tactic| ((with_reducible apply c_tup_pt); walk_at "sz"))
local macro_rules | `(tactic| walk_at "call") => `(tactic| ((with_reducible apply c_tuple_of_row); walk_at "sz"))
local macro_rules | `(tactic| walk_at "call") => `(tactic| ((with_reducible apply c_moved) <;> walk_at "sz"))
theorem sc_flow_at : FnScope ["row", "push", "h", "state", "matrices", "found", "part", "x"] ["row", "push", "h", "state"] (defScope (top 63)) := ⟨rfl, rfl, rfl, by decide +kernel, rfl, by decide +kernel, by decide +kernel⟩
theorem d_flow_at (C : CT P w K mg base T) : Df P w K mg base "flow_at" 9 ["row", "push", "h", "state"] (spF T K fFlowAt) := by
  refine df_of C (i := 46) (x := "flow_at") (N := ["row", "push", "h", "state", "matrices", "found", "part", "x"]) (n := 4) rfl sc_flow_at (fun _ _ _ _ _ _ us hl => match us, hl with | [_, _, _, _], _ => rfl) ?_ rfl fun cdv A outer s H E fa hr => ⟨_, (pss_cons (ps_par (i := 4) (j := 5) rfl sc_flow_at.nd rfl rfl (by decide) rfl rfl (pa_cons (pe_dfK (d_tuple_of C) rfl rfl rfl rfl rfl hr (by rfl) (pa_cons (pv 1) pa_nil)) (pa_cons (pe_dfK (d_tuple_of C) rfl rfl rfl rfl rfl hr (by rfl) (pa_cons (pv 3) pa_nil)) pa_nil)) (by rfl))
  (pss_cons (ps_for PassesOwn.never rfl (pi_seqK K rfl (pe_dfK (d_tuple_of C) rfl rfl rfl rfl rfl hr (by rfl) (pa_cons (pv 0) pa_nil))) (pg_tupK K rfl (n := 2) rfl (pgs_cons (pg_name (i := 6) sc_flow_at.nd rfl (by first | exact Or.inl rfl | exact Or.inr rfl)) (pgs_cons (pg_name (i := 7) sc_flow_at.nd rfl (by first | exact Or.inl rfl | exact Or.inr rfl)) pgs_nil))) (pss_one (ps_set (i := 5) sc_flow_at.nd rfl (by first | exact Or.inl rfl | exact Or.inr rfl) (pe_dfK (d_moved C) rfl rfl rfl rfl rfl hr (by rfl) (pa_cons (pe_ix (ix_seqK K rfl) (pv 4) (pv 6) (fun _ _ => rfl)) (pa_cons (pe_dfK (d_times C) rfl rfl rfl rfl rfl hr (by rfl) (pa_cons (pv 7) (pa_cons (pv 2) pa_nil))) (pa_cons (pv 5) pa_nil)))))))
  (pss_one (ps_ret (pv 5))))), ?_⟩
  · rintro _ _ ⟨Ns, h, r, v, rfl, ok, rfl⟩
    rfl
  · rintro _ _ ⟨Ns, h, r, v, rfl, ok, rfl⟩
    have few := ok.few
    have len : r.length ≤ 1000 := by have := ok.len; omega
    have hh := ok.sh
    let ρ : Nat → List Sl := fun i => [.dat (rw_ r), .dat (pt Ns), .dat (fr h), .dat (vt v), .dat (pt Ns), .dat (vt (act (flowE Ns h) (r.take i) v)), .any, .any]
    refine std_seq (ρ1 := ρ 0) (std_par (d1 := pt Ns) (d2 := vt v) (by walk_at "evs")) ?_
    have fin : ρ (r.map pr).length = [.dat (rw_ r), .dat (pt Ns), .dat (fr h), .dat (vt v), .dat (pt Ns), .dat (vt (act (flowE Ns h) r v)), .any, .any] := by
      show [Sl.dat (rw_ r), .dat (pt Ns), .dat (fr h), .dat (vt v), .dat (pt Ns), .dat (vt (act (flowE Ns h) (r.take (r.map pr).length) v)), .any, .any] = _
      rw [(List.length_map), List.take_length]
    refine std_seq (ρ1 := ρ (r.map pr).length) (std_for (js := [6, 7]) ρ (itd_T (ds := r.map pr) (by walk_at "ev")) fun i d hd => ?_) (by rw [fin]; exact std_ret (by walk_at "ev"))
    rw [List.getElem?_map] at hd
    cases hr : r[i]? with
    | none => rw [hr] at hd; cases hd
    | some p =>
      rw [hr] at hd
      cases hd
      have hm := mem_get hr
      obtain ⟨p0, p1⟩ := ok.parts p hm
      obtain ⟨x1, x2⟩ := ok.xs p hm
      have hi : i < r.length := (List.getElem?_eq_some_iff.mp hr).1
      have sv := ok.runs i (by omega)
      have hN : nm Ns p.1 ∈ Ns := by
        unfold nm
        rw [List.getD_eq_getElem?_getD, List.getElem?_eq_getElem p1]
        exact List.getElem_mem p1
      obtain ⟨n1, n2⟩ := ok.mats _ hN
      refine ⟨_, tgd_tup2 tgd_name tgd_name, ?_⟩
      refine std_weakN (ρ1 := [.dat (rw_ r), .dat (pt Ns), .dat (fr h), .dat (vt v), .dat (pt Ns), .dat (vt (movV (nm Ns p.1) (p.2 * h) (act (flowE Ns h) (r.take i) v))), .dat (.int p.1), .dat (fr p.2)]) (std_asg ?_) rfl ?_
      · refine evd_call (evds_cons (evd_op (evd_var (i := 4) rfl) (evd_var (i := 6) rfl) (ix_tupD (nm_get p0 p1))) (evds_cons (a := fr (p.2 * h)) ?_ (evds_cons (evd_var (i := 5) rfl) evds_nil))) (c_moved n1 n2 x2 sv)
        exact evd_call (evds_cons (evd_var (i := 7) rfl) (evds_cons (evd_var (i := 2) rfl) evds_nil)) (c_times x1 hh)
      · intro j s hj
        have e : ρ (i + 1) = [.dat (rw_ r), .dat (pt Ns), .dat (fr h), .dat (vt v), .dat (pt Ns), .dat (vt (movV (nm Ns p.1) (p.2 * h) (act (flowE Ns h) (r.take i) v))), .any, .any] := by
          show [Sl.dat (rw_ r), .dat (pt Ns), .dat (fr h), .dat (vt v), .dat (pt Ns), .dat (vt (act (flowE Ns h) (r.take (i + 1)) v)), .any, .any] = _
          rw [act_take hr]; rfl
        rw [e] at hj
        match j, hj with
        | 0, h => exact .inr h
        | 1, h => exact .inr h
        | 2, h => exact .inr h
        | 3, h => exact .inr h
        | 4, h => exact .inr h
        | 5, h => exact .inr h
        | 6, h => exact .inl (Option.some.inj h).symm
        | 7, h => exact .inl (Option.some.inj h).symm
        | _ + 8, h => cases h
theorem c_flow_at {Ns : List Mx} {h : Rat} {r : Row} {v : Vc} (ok : FlowOk Ns h r v) : fFlowAt [rw_ r, pt Ns, fr h, vt v] (vt (act (flowE Ns h) r v)) := ⟨Ns, h, r, v, rfl, ok, rfl⟩
end
end K37
namespace K37
open PySem PySem.Spec L2
local macro_rules | `(tactic| walk_at "sz") => `(tactic| first | assumption | decide | omega)
local macro_rules | `(tactic| walk_at "call") => `(tactic| fail "no call")
local macro_rules | `(tactic| walk_at "cb") => `(tactic| first
  | with_reducible exact gcd_D | with_reducible exact len_T | with_reducible exact len_L | with_reducible exact tuple_L | with_reducible exact tuple_T | with_reducible exact max_D | with_reducible exact min_D | with_reducible exact abs_D
  | with_reducible exact int_D | with_reducible exact int_B)
local macro_rules | `(tactic| walk_at "op") => `(tactic| first
  | with_reducible exact minus_int | with_reducible exact plus_int | ((with_reducible apply times_int); walk_at "sz") | ((with_reducible apply ix_tupD); exact rfl) | ((with_reducible apply ix_lstD); exact rfl)
  | with_reducible exact lt_intD | with_reducible exact le_intD | with_reducible exact gt_intD | with_reducible exact ge_intD
  | ((with_reducible apply eq_D) <;> first | exact rfl | exact fr_shaped _ | assumption) | ((with_reducible apply ne_D) <;> first | exact rfl | exact fr_shaped _ | assumption)
  | ((with_reducible apply fdiv_int); walk_at "sz") | ((with_reducible apply fmod_int); walk_at "sz")
  | ((with_reducible apply plus_tup); walk_at "sz") | ((with_reducible apply plus_lst); walk_at "sz"))
local macro_rules | `(tactic| walk_at "evs") => `(tactic| first
  | with_reducible exact evds_nil
  | ((with_reducible apply evds_cons); (· walk_at "ev"); (· walk_at "evs")))
local macro_rules | `(tactic| walk_at "ev") => `(tactic| first
  | assumption
  | ((with_reducible apply evd_var); exact rfl)
  | with_reducible exact evd_int | with_reducible exact evd_cst | with_reducible exact evd_non | with_reducible exact evd_bl
  | ((with_reducible apply evd_op); (· walk_at "ev"); (· walk_at "ev"); (· walk_at "op"))
  | ((with_reducible apply evd_un); (· walk_at "ev"); (· with_reducible exact neg_intD))
  | ((with_reducible apply evd_call); (· walk_at "evs"); (· walk_at "call"))
  | ((with_reducible apply evd_cb); (· walk_at "evs"); (· walk_at "cb"))
  | ((with_reducible apply evd_tup); (· walk_at "evs"); (· exact Nat.le_of_ble_eq_true rfl))
  | ((with_reducible apply evd_isN); walk_at "ev") | ((with_reducible apply evd_notN); walk_at "ev")
  | ((with_reducible apply evd_not); walk_at "ev"))
local macro_rules | `(tactic| walk_at "te") => `(tactic| first
  | ((with_reducible apply ted_test); walk_at "ev") | ((with_reducible apply ted_B); walk_at "ev") | ((with_reducible apply ted_not); walk_at "te"))

/-! ### the cells' push -/
def cellM (k : Nat) : Mx := ((((-(1 + (k : Int)) : Int) : Rat), 1), (((-(1 + (k : Int)) * (1 + (k : Int)) : Int) : Rat), (((1 + (k : Int) : Int)) : Rat)))
def cells (m : Nat) : List Mx := (List.range m).map cellM
def fCell (ds : List PyData) (d : PyData) : Prop := ∃ m : Nat, ds = [.int m] ∧ m ≤ 9 ∧ d = pt (cells m)
def restR (r s : Row) : Row := nf (r ++ turnR s)
def fRest (ds : List PyData) (d : PyData) : Prop := ∃ (r s : Row) (N : Nat), ds = [rw_ r, rw_ s] ∧ RowQ N r ∧ RowQ N s ∧ r.length + s.length ≤ 60 ∧ N * 60 < 2 ^ 64 ∧ d = rw_ (restR r s)
def partsI (r : Row) : List Int := sortU (r.map (·.1))
def fParts (ds : List PyData) (d : PyData) : Prop := ∃ r : Row, ds = [rw_ r] ∧ r.length < 60 ∧ d = .list ((partsI r).map .int)
def lessA (l : Rat) (p : Int × Rat) : Rat := if p.2.abs < l then p.2.abs else l
def minA : Row → Rat
  | [] => 1
  | p :: r => (p :: r).foldl lessA p.2.abs
def stepQ (r : Row) : Rat := match r with
  | [] => 1
  | _ => 2 / minA r
def fStep (ds : List PyData) (d : PyData) : Prop := ∃ (r s : Row) (N : Nat), ds = [rw_ r, rw_ s] ∧ RowQ N r ∧ RowQ N s ∧ r.length + s.length ≤ 60 ∧ N * 60 < 2 ^ 64 ∧ d = fr (stepQ (restR r s))
theorem turn_q {N : Nat} {r : Row} (h : ∀ p ∈ r, Bq 6 N p.2) : ∀ p ∈ turnR r, Bq 6 N p.2 := fun p hp => by
  obtain ⟨q, hq, rfl⟩ := (List.mem_map.mp hp)
  exact (h q (List.mem_reverse.mp hq)).neg
theorem turn_len (r : Row) : (turnR r).length = r.length := by simp [turnR]
theorem join_q {N : Nat} {r s : Row} (h : RowQ N r) (g : RowQ N s) (l : r.length + s.length ≤ 60) : RowQ N (r ++ turnR s) := by
  refine ⟨by rw [List.length_append, turn_len]; exact l, fun p hp => ?_⟩
  rcases (List.mem_append.mp hp) with z | z
  · exact h.2 p z
  · exact turn_q g.2 p z
theorem rest_q {N : Nat} {r s : Row} (h : RowQ N r) (g : RowQ N s) (l : r.length + s.length ≤ 60) : RowQ (N * 60) (restR r s) := nf_q (join_q h g l)
theorem abs_sm {n : Nat} {x : Rat} (h : Sm n x) : Sm n x.abs := ⟨by rw [abs_num, Int.natAbs_natCast]; exact h.1, by rw [abs_den]; exact h.2⟩
theorem abs_ne {x : Rat} (h : x ≠ 0) : x.abs ≠ 0 := fun z => h (by
  have := congrArg Rat.num z
  rw [abs_num] at this
  exact num_zero.mp (by simpa using this))
section
variable {P : Program} {w : World} {K : PySem.W.Frag} {mg : Str → Option Value} {base : Heap} {T : Tb}
local macro_rules | `(tactic| walk_at "call") => `(tactic| with_reducible exact c_whole)
theorem sc_cell_push : FnScope ["many", "found", "number", "rate"] ["many"] (defScope (top 56)) := ⟨rfl, rfl, rfl, by decide +kernel, rfl, by decide +kernel, by decide +kernel⟩
theorem d_cell_push (C : CT P w K mg base T) : Df P w K mg base "cell_push" 2 ["many"] (spF T K fCell) := by
  refine df_of C (i := 39) (x := "cell_push") (N := ["many", "found", "number", "rate"]) (n := 3) rfl sc_cell_push (fun _ _ _ _ _ _ us hl => match us, hl with | [_], _ => rfl) ?_ rfl fun cdv A outer s H E fa hr => ⟨_, (pss_cons (ps_set (i := 1) sc_cell_push.nd rfl (by first | exact Or.inl rfl | exact Or.inr rfl) (pe_lst pa_nil))
  (pss_cons (ps_for PassesOwn.never rfl (pi_range2 (by rfl) (C.free 11 _ rfl) (pa_cons pe_int (pa_cons (pe_op (op_plusK K rfl) (pv 0) pe_int) pa_nil))) (pg_name (i := 2) sc_cell_push.nd rfl (by first | exact Or.inl rfl | exact Or.inr rfl)) (pss_cons (ps_set (i := 3) sc_cell_push.nd rfl (by first | exact Or.inl rfl | exact Or.inr rfl) (pe_tup (pa_cons (pe_dfK (d_whole C) rfl rfl rfl rfl rfl hr (by rfl) (pa_cons (pe_un un_neg (pv 2)) pa_nil)) (pa_cons (pe_cstK K rfl (by rfl) (C.cst 5 _ rfl)) pa_nil))))
  (pss_one (ps_expr (pe_bmK K rfl PySem.F.plainAttrs_list PySem.F.slot_list_append PySem.F.type_list_append mt_append (pv 1) (pa_cons (pe_tup (pa_cons (pv 3) (pa_cons (pe_tup (pa_cons (pe_dfK (d_whole C) rfl rfl rfl rfl rfl hr (by rfl) (pa_cons (pe_op (op_timesK K rfl) (pe_un un_neg (pv 2)) (pv 2)) pa_nil)) (pa_cons (pe_dfK (d_whole C) rfl rfl rfl rfl rfl hr (by rfl) (pa_cons (pv 2) pa_nil)) pa_nil))) pa_nil))) pa_nil))))))
  (pss_one (ps_ret (pe_callTy (call_tupleK K rfl) (by rfl) (C.free 16 _ rfl) (by decide +kernel) (pa_cons (pv 1) pa_nil)))))), ?_⟩
  · rintro _ _ ⟨m, rfl, hm, rfl⟩
    rfl
  · rintro _ _ ⟨m, rfl, hm, rfl⟩
    let ρ : Nat → List Sl := fun i => [.dat (.int m), .own ((cells i).map mt), .any, .any]
    have em : ((m : Int) + 1 - 1).toNat = m := by omega
    refine std_seq (ρ1 := ρ 0) (std_asgF (i := 1) (ds := []) (evf_lst evds_nil (Nat.zero_le _))) ?_
    have fin : ρ (rngD 1 ((m : Int) + 1 - 1).toNat).length = ρ m := by rw [rngD_len, em]
    refine std_seq (ρ1 := ρ m) ?_ (std_ret (evd_tupOwn (i := 1) rfl))
    rw [← fin]
    refine std_for (js := [2]) ρ (itd_rng2 (lo := 1) (n := (m : Int) + 1) (evds_cons evd_int (evds_cons (evd_op (evd_var rfl) evd_int plus_int) evds_nil))) fun i d hd => ?_
    obtain ⟨hi, rfl⟩ := rngD_get hd
    refine ⟨_, tgd_name, ?_⟩
    have hs : CMulX (-(1 + ((i : Nat) : Int))) (1 + ((i : Nat) : Int)) := sm_mul (a := 8) (b := 8) (by omega) (by omega)
    refine std_seq (ρ1 := [.dat (.int m), .own ((cells i).map mt), .dat (.int (1 + ((i : Nat) : Int))), .dat (vt (cellM i).1)]) (std_asg (d := vt (cellM i).1) ?_) ?_
    · exact evd_tup (evds_cons (evd_call (evds_cons (evd_un (evd_var rfl) neg_intD) evds_nil) c_whole) (evds_cons evd_cst evds_nil)) (Nat.le_of_ble_eq_true rfl)
    · have ec : (cells (i + 1)).map mt = (cells i).map mt ++ [mt (cellM i)] := by
        unfold cells
        rw [List.range_succ, List.map_append, List.map_append]; rfl
      refine std_weakN (ρ1 := [.dat (.int m), .own ((cells i).map mt ++ [mt (cellM i)]), .dat (.int (1 + ((i : Nat) : Int))), .dat (vt (cellM i).1)]) (std_app rfl ?_ (by unfold cells; simp; omega)) rfl ?_
      · refine evd_tup (evds_cons (evd_var rfl) (evds_cons (evd_tup (evds_cons (evd_call (evds_cons (evd_op (evd_un (evd_var (i := 2) rfl) neg_intD) (evd_var (i := 2) rfl) (times_int hs)) evds_nil) c_whole) (evds_cons (evd_call (evds_cons (evd_var rfl) evds_nil) c_whole) evds_nil)) (Nat.le_of_ble_eq_true rfl)) evds_nil)) (Nat.le_of_ble_eq_true rfl)
      · rw [← ec]
        intro j s hj
        match j, hj with
        | 0, h => exact .inr h
        | 1, h => exact .inr h
        | 2, h => exact .inl (Option.some.inj h).symm
        | 3, h => exact .inl (Option.some.inj h).symm
        | _ + 4, h => cases h
theorem c_turned {r : Row} (h1 : r.length ≤ 1000) (h2 : SmR r) : fTurned [rw_ r] (rw_ (turnR r)) := ⟨r, rfl, h1, h2, rfl⟩
theorem c_joined {r s : Row} (h1 : r.length ≤ 1000) (h2 : s.length ≤ 1000) : fJoined [rw_ r, rw_ s] (rw_ (r ++ s)) := ⟨r, s, rfl, h1, h2, rfl⟩
theorem sc_rest_of : FnScope ["row", "other"] ["row", "other"] (defScope (top 50)) := ⟨rfl, rfl, rfl, by decide +kernel, rfl, by decide +kernel, by decide +kernel⟩
theorem d_rest_of (C : CT P w K mg base T) : Df P w K mg base "rest_of" 11 ["row", "other"] (spF T K fRest) := by
  refine df_of C (i := 33) (x := "rest_of") (N := ["row", "other"]) (n := 0) rfl sc_rest_of (fun _ _ _ _ _ _ us hl => match us, hl with | [_, _], _ => rfl) ?_ rfl fun cdv A outer s H E fa hr => ⟨_, (pss_one (ps_ret (pe_dfK (d_normal_row C) rfl rfl rfl rfl rfl hr (by rfl) (pa_cons (pe_dfK (d_row_joined C) rfl rfl rfl rfl rfl hr (by rfl) (pa_cons (pv 0) (pa_cons (pe_dfK (d_row_turned C) rfl rfl rfl rfl rfl hr (by rfl) (pa_cons (pv 1) pa_nil)) pa_nil))) pa_nil)))), ?_⟩
  · rintro _ _ ⟨r, s, N, rfl, hr, hs, hl, hN, rfl⟩
    rfl
  · rintro _ _ ⟨r, s, N, rfl, hr, hs, hl, hN, rfl⟩
    refine std_ret (evd_call (evds_cons (evd_call (evds_cons (evd_var rfl) (evds_cons (evd_call (evds_cons (evd_var rfl) evds_nil) (c_turned (by omega) (hs.sm (by omega)))) evds_nil)) (c_joined (by omega) (by rw [turn_len]; omega))) evds_nil) (c_normal (join_q hr hs hl) hN))
theorem sc_parts_in : FnScope ["row", "part", "_"] ["row"] (defScope (top 51)) := ⟨rfl, rfl, rfl, by decide +kernel, rfl, by decide +kernel, by decide +kernel⟩
theorem d_parts_in (C : CT P w K mg base T) : Df P w K mg base "parts_in" 1 ["row"] (spF T K fParts) := by
  refine df_of C (i := 34) (x := "parts_in") (N := ["row", "part", "_"]) (n := 2) rfl sc_parts_in (fun _ _ _ _ _ _ us hl => match us, hl with | [_], _ => rfl) ?_ rfl fun cdv A outer s H E fa hr => ⟨_, (pss_one (ps_ret (pe_callB (cr_sortedSetK w rfl rfl) (by rfl) (C.free 14 _ rfl) (by decide +kernel) (pa_cons (pe_callTy (cr_setI K w rfl rfl rfl) (by rfl) (C.free 13 _ rfl) (by decide +kernel) (pa_cons (pe_lc rfl sc_parts_in.nd (pi_seqK K rfl (pv 0)) (blkOk_by (own := [("part", 1), ("_", 2)]) (by kernel_rfl)) (fun _ _ _ _ _ => (pg_tupK K rfl (n := 2) rfl (pgs_cons (pg_name (i := 1) sc_parts_in.nd rfl (by first | exact Or.inl rfl | exact Or.inr rfl)) (pgs_cons (pg_name (i := 2) sc_parts_in.nd rfl (by first | exact Or.inl rfl | exact Or.inr rfl)) pgs_nil)))) (fun _ _ _ _ _ => pts_nil) (fun _ _ _ _ _ => (pv 1))) pa_nil)) pa_nil)))), ?_⟩
  · rintro _ _ ⟨r, rfl, hl, rfl⟩
    rfl
  · rintro _ _ ⟨r, rfl, hl, rfl⟩
    refine std_ret (evf_sortSet (evf_lc (js := [1, 2]) ((r.map (·.1)).map .int) (itd_T (ds := r.map pr) (by walk_at "ev")) (by decide) (by simp) (by simp; omega) fun i d e hd he => ?_).ev (by simpa using hl)).ev
    rw [List.getElem?_map] at hd
    rw [List.getElem?_map, List.getElem?_map] at he
    cases hr : r[i]? with
    | none => rw [hr] at hd; cases hd
    | some p =>
      rw [hr] at hd he
      cases hd; cases he
      exact ⟨_, tgd_tup2 tgd_name tgd_name, evd_var rfl⟩
theorem c_rest {r s : Row} {N : Nat} (h1 : RowQ N r) (h2 : RowQ N s) (h3 : r.length + s.length ≤ 60) (h4 : N * 60 < 2 ^ 64) : fRest [rw_ r, rw_ s] (rw_ (restR r s)) := ⟨r, s, N, rfl, h1, h2, h3, h4, rfl⟩
theorem c_parts {r : Row} (h : r.length < 60) : fParts [rw_ r] (.list ((partsI r).map .int)) := ⟨r, rfl, h, rfl⟩
theorem less_ne {l : Rat} {p : Int × Rat} (h1 : l ≠ 0) (h2 : p.2 ≠ 0) : lessA l p ≠ 0 := by
  unfold lessA
  split
  · exact abs_ne h2
  · exact h1
theorem less_sm {n : Nat} {l : Rat} {p : Int × Rat} (h1 : Sm n l) (h2 : Sm n p.2) : Sm n (lessA l p) := by
  unfold lessA
  split
  · exact abs_sm h2
  · exact h1
theorem red_mem {r : Row} (h : Red r) : ∀ p ∈ r, p.2 ≠ 0 := by
  induction r with
  | nil => intro p hp; cases hp
  | cons q r ih =>
    intro p hp
    cases hp with
    | head => exact h.head
    | tail _ hp => exact ih h.tail p hp
theorem sc_one_step : FnScope ["row", "other", "rest", "least", "_", "x"] ["row", "other"] (defScope (top 64)) := ⟨rfl, rfl, rfl, by decide +kernel, rfl, by decide +kernel, by decide +kernel⟩
theorem d_one_step (C : CT P w K mg base T) : Df P w K mg base "one_step" 12 ["row", "other"] (spF T K fStep) := by
  refine df_of C (i := 47) (x := "one_step") (N := ["row", "other", "rest", "least", "_", "x"]) (n := 4) rfl sc_one_step (fun _ _ _ _ _ _ us hl => match us, hl with | [_, _], _ => rfl) ?_ rfl fun cdv A outer s H E fa hr => ⟨_, (pss_cons (ps_set (i := 2) sc_one_step.nd rfl (by first | exact Or.inl rfl | exact Or.inr rfl) (pe_dfK (d_rest_of C) rfl rfl rfl rfl rfl hr (by rfl) (pa_cons (pv 0) (pa_cons (pv 1) pa_nil))))
  (pss_cons (ps_if (pt_cmpR (op_eqK K rfl hr.units) (pv 2) (pe_tup pa_nil) (nomark _)) (pss_one (ps_ret (pe_cstK K rfl (by rfl) (C.cst 5 _ rfl)))) pss_nil)
  (pss_cons (ps_set (i := 3) sc_one_step.nd rfl (by first | exact Or.inl rfl | exact Or.inr rfl) (pe_dfK (d_size_of C) rfl rfl rfl rfl rfl hr (by rfl) (pa_cons (pe_ix (ix_seqK K rfl) (pe_ix (ix_seqK K rfl) (pv 2) pe_int (fun _ _ => rfl)) pe_int (fun _ _ => rfl)) pa_nil)))
  (pss_cons (ps_for PassesOwn.never rfl (pi_seqK K rfl (pv 2)) (pg_tupK K rfl (n := 2) rfl (pgs_cons (pg_name (i := 4) sc_one_step.nd rfl (by first | exact Or.inl rfl | exact Or.inr rfl)) (pgs_cons (pg_name (i := 5) sc_one_step.nd rfl (by first | exact Or.inl rfl | exact Or.inr rfl)) pgs_nil))) (pss_one (ps_set (i := 3) sc_one_step.nd rfl (by first | exact Or.inl rfl | exact Or.inr rfl) (pe_ifExp (pt_val (pe_dfK (d_is_less C) rfl rfl rfl rfl rfl hr (by rfl) (pa_cons (pe_dfK (d_size_of C) rfl rfl rfl rfl rfl hr (by rfl) (pa_cons (pv 5) pa_nil)) (pa_cons (pv 3) pa_nil)))) (pe_dfK (d_size_of C) rfl rfl rfl rfl rfl hr (by rfl) (pa_cons (pv 5) pa_nil)) (pv 3)))))
  (pss_one (ps_ret (pe_dfK (d_over C) rfl rfl rfl rfl rfl hr (by rfl) (pa_cons (pe_dfK (d_whole C) rfl rfl rfl rfl rfl hr (by rfl) (pa_cons pe_int pa_nil)) (pa_cons (pv 3) pa_nil))))))))), ?_⟩
  · rintro _ _ ⟨r, s, N, rfl, hr, hs, hl, hN, rfl⟩
    rfl
  · rintro _ _ ⟨r, s, N, rfl, hr, hs, hl, hN, rfl⟩
    have hq := rest_q hr hs hl
    have hsm := hq.sm hN
    have hred : Red (restR r s) := red_nf _
    refine std_seq (std_asg (evd_call (by walk_at "evs") (c_rest hr hs hl hN))) ?_
    generalize restR r s = t at *
    have ee : PyData.eqv (rw_ t) (.tuple []) = decide (t = []) := row_eqv t []
    have tst : TeD T K (tTest (tOp (rEqD K) (tVar 2) (tTup tNil))) [.dat (rw_ r), .dat (rw_ s), .dat (rw_ t), .any, .any, .any] (decide (t = [])) :=
      TeD.is (ted_test (evd_op (evd_var rfl) (evd_tup evds_nil (Nat.zero_le _)) (eq_D (row_shaped t) rfl))) ee
    cases t with
    | nil => exact std_seqR (std_if tst (fun _ => std_ret evd_cst) fun h => by cases h)
    | cons p u =>
      refine std_seq (std_if (TeD.is tst (decide_eq_false (by simp))) (fun h => by cases h) fun _ => std_next) ?_
      have e0 : atI ((p :: u).map pr) 0 = some (pr p) := at_nat (k := 0) rfl
      refine std_seq (std_asg (d := fr p.2.abs) (evd_call (evds_cons (evd_op (evd_op (evd_var rfl) evd_int (ix_tupD e0)) evd_int (ix_tupD rfl)) evds_nil) c_size)) ?_
      let ρ : Nat → List Sl := fun i => [.dat (rw_ r), .dat (rw_ s), .dat (rw_ (p :: u)), .dat (fr (((p :: u).take i).foldl lessA p.2.abs)), .any, .any]
      have fin : ρ ((p :: u).map pr).length = [.dat (rw_ r), .dat (rw_ s), .dat (rw_ (p :: u)), .dat (fr (minA (p :: u))), .any, .any] := by
        show [Sl.dat (rw_ r), .dat (rw_ s), .dat (rw_ (p :: u)), .dat (fr (((p :: u).take ((p :: u).map pr).length).foldl lessA p.2.abs)), .any, .any] = _
        rw [List.length_map, List.take_length]; rfl
      have ok : ∀ (l : Row), (∀ q ∈ l, q ∈ p :: u) → Sm 4000 (l.foldl lessA p.2.abs) ∧ l.foldl lessA p.2.abs ≠ 0 := fun l hl => by
        have : ∀ (l : Row) (a : Rat), (∀ q ∈ l, q ∈ p :: u) → Sm 4000 a → a ≠ 0 → Sm 4000 (l.foldl lessA a) ∧ l.foldl lessA a ≠ 0 := fun l => by
          induction l with
          | nil => exact fun a _ h1 h2 => ⟨h1, h2⟩
          | cons q l ih => exact fun a hm h1 h2 => ih _ (fun x hx => hm x (List.mem_cons_of_mem _ hx)) (less_sm h1 (hsm q (hm q (by simp)))) (less_ne h2 (red_mem hred q (hm q (by simp))))
        exact this l _ hl (abs_sm (hsm p (by simp))) (abs_ne (red_mem hred p (by simp)))
      refine std_seq (ρ1 := ρ ((p :: u).map pr).length) (std_for (js := [4, 5]) ρ (itd_T (ds := (p :: u).map pr) (by walk_at "ev")) fun i d hd => ?_) ?_
      · rw [List.getElem?_map] at hd
        cases hq2 : (p :: u)[i]? with
        | none => rw [hq2] at hd; cases hd
        | some q =>
          rw [hq2] at hd
          cases hd
          have sq := hsm q (mem_get hq2)
          have sa := abs_sm sq
          have sl := (ok ((p :: u).take i) fun x hx => List.mem_of_mem_take hx).1
          refine ⟨_, tgd_tup2 tgd_name tgd_name, ?_⟩
          have en : ((p :: u).take (i + 1)).foldl lessA p.2.abs = lessA (((p :: u).take i).foldl lessA p.2.abs) q := by
            rw [List.take_add_one, hq2, List.foldl_append]; rfl
          have goal : StD T K (tAsg (tIf (tTest (tCall (spF T K fLess) [] E0 (tCons (tCall (spF T K fSize) [] E0 (tCons (tVar 5) tNil)) (tCons (tVar 3) tNil)))) (tCall (spF T K fSize) [] E0 (tCons (tVar 5) tNil)) (tVar 3)) (gName 3)) [.dat (rw_ r), .dat (rw_ s), .dat (rw_ (p :: u)), .dat (fr (((p :: u).take i).foldl lessA p.2.abs)), .dat (.int q.1), .dat (fr q.2)]
              (.nx [.dat (rw_ r), .dat (rw_ s), .dat (rw_ (p :: u)), .dat (fr (lessA (((p :: u).take i).foldl lessA p.2.abs) q)), .dat (.int q.1), .dat (fr q.2)]) := by
            refine std_asg (evd_if (x := decide (q.2.abs < ((p :: u).take i).foldl lessA p.2.abs)) (ted_test (evd_call (evds_cons (evd_call (evds_cons (evd_var rfl) evds_nil) c_size) (evds_cons (evd_var rfl) evds_nil)) (c_less sa sl))) (fun h => ?_) fun h => ?_)
            · have e : lessA (((p :: u).take i).foldl lessA p.2.abs) q = q.2.abs := if_pos (of_decide_eq_true h)
              rw [e]
              exact evd_call (evds_cons (evd_var rfl) evds_nil) c_size
            · have e : lessA (((p :: u).take i).foldl lessA p.2.abs) q = ((p :: u).take i).foldl lessA p.2.abs := if_neg (of_decide_eq_false h)
              rw [e]
              exact evd_var rfl
          refine std_weakN goal rfl ?_
          show ∀ (j : Nat) (s_1 : Sl), [Sl.dat (rw_ r), .dat (rw_ s), .dat (rw_ (p :: u)), .dat (fr (((p :: u).take (i + 1)).foldl lessA p.2.abs)), .any, .any][j]? = some s_1 → _
          rw [en]
          intro j s hj
          match j, hj with
          | 0, h => exact .inr h
          | 1, h => exact .inr h
          | 2, h => exact .inr h
          | 3, h => exact .inr h
          | 4, h => exact .inl (Option.some.inj h).symm
          | 5, h => exact .inl (Option.some.inj h).symm
          | _ + 6, h => cases h
      · rw [fin]
        obtain ⟨o1, o2⟩ := ok (p :: u) fun x hx => hx
        have s2 : Sm 4000 (((2 : Int) : Rat)) := sm_nat (k := 2) (p4000 (by decide)) (by decide)
        exact std_ret (evd_call (evds_cons (evd_call (evds_cons evd_int evds_nil) c_whole) (evds_cons (evd_var rfl) evds_nil)) (c_over s2 o1 o2))
end
end K37
namespace K37
open PySem PySem.Spec L2
local macro_rules | `(tactic| walk_at "sz") => `(tactic| first | assumption | decide | omega)
local macro_rules | `(tactic| walk_at "call") => `(tactic| fail "no call")
local macro_rules | `(tactic| walk_at "cb") => `(tactic| first
  | with_reducible exact gcd_D | with_reducible exact len_T | with_reducible exact len_L | with_reducible exact tuple_L | with_reducible exact tuple_T | with_reducible exact max_D | with_reducible exact min_D | with_reducible exact abs_D
  | with_reducible exact int_D | with_reducible exact int_B)
local macro_rules | `(tactic| walk_at "op") => `(tactic| first
  | with_reducible exact minus_int | with_reducible exact plus_int | ((with_reducible apply times_int); walk_at "sz") | ((with_reducible apply ix_tupD); exact rfl) | ((with_reducible apply ix_lstD); exact rfl)
  | with_reducible exact lt_intD | with_reducible exact le_intD | with_reducible exact gt_intD | with_reducible exact ge_intD
  | ((with_reducible apply eq_D) <;> first | exact rfl | exact fr_shaped _ | assumption) | ((with_reducible apply ne_D) <;> first | exact rfl | exact fr_shaped _ | assumption)
  | ((with_reducible apply fdiv_int); walk_at "sz") | ((with_reducible apply fmod_int); walk_at "sz")
  | ((with_reducible apply plus_tup); walk_at "sz") | ((with_reducible apply plus_lst); walk_at "sz"))
local macro_rules | `(tactic| walk_at "evs") => `(tactic| first
  | with_reducible exact evds_nil
  | ((with_reducible apply evds_cons); (· walk_at "ev"); (· walk_at "evs")))
local macro_rules | `(tactic| walk_at "ev") => `(tactic| first
  | assumption
  | ((with_reducible apply evd_var); exact rfl)
  | with_reducible exact evd_int | with_reducible exact evd_cst | with_reducible exact evd_non | with_reducible exact evd_bl
  | ((with_reducible apply evd_op); (· walk_at "ev"); (· walk_at "ev"); (· walk_at "op"))
  | ((with_reducible apply evd_un); (· walk_at "ev"); (· with_reducible exact neg_intD))
  | ((with_reducible apply evd_call); (· walk_at "evs"); (· walk_at "call"))
  | ((with_reducible apply evd_cb); (· walk_at "evs"); (· walk_at "cb"))
  | ((with_reducible apply evd_tup); (· walk_at "evs"); (· exact Nat.le_of_ble_eq_true rfl))
  | ((with_reducible apply evd_isN); walk_at "ev") | ((with_reducible apply evd_notN); walk_at "ev")
  | ((with_reducible apply evd_not); walk_at "ev"))
local macro_rules | `(tactic| walk_at "te") => `(tactic| first
  | ((with_reducible apply ted_test); walk_at "ev") | ((with_reducible apply ted_B); walk_at "ev") | ((with_reducible apply ted_not); walk_at "te"))

/-! ### the springs' push -/
def spr : List Mx := [((0, 1), (0, 0)), ((0, 0), (1, 0))]
def fSpring (ds : List PyData) (d : PyData) : Prop := ds = [] ∧ d = pt spr
section
variable {P : Program} {w : World} {K : PySem.W.Frag} {mg : Str → Option Value} {base : Heap} {T : Tb}
theorem sc__matrix : FnScope ["size", "places", "k", "j"] ["size", "places"] (defScope (top 55)) := ⟨rfl, rfl, rfl, by decide +kernel, rfl, by decide +kernel, by decide +kernel⟩
theorem en_mat {K : PySem.W.Frag} {H G : Hp} {a : Addr} {i j : Int} {v : V} {d : PyData} (ha : H a = some (.dT [([.inl i, .inl j], v)])) (q : Dq K G v d) : En K H G H [some (.int 2), some (.ref a), none, none] [.dat (.int 2), .dic i j d, .any, .any] := by
  refine ⟨rfl, fun k s e => ?_, fun k l dk dl p _ ek _ _ _ => ?_⟩
  · match k, e with
    | 0, e => cases e; exact ⟨_, rfl, _, rfl, .int 2⟩
    | 1, e => cases e; exact ⟨_, rfl, a, v, rfl, ha, q⟩
    | 2, e => cases e; exact ⟨_, rfl, trivial⟩
    | 3, e => cases e; exact ⟨_, rfl, trivial⟩
    | _ + 4, e => cases e
  · match k, ek with
    | 0, e => cases e
    | 1, e => cases e
    | 2, e => cases e
    | 3, e => cases e
    | _ + 4, e => cases e
theorem d_matrix (C : CT P w K mg base T) : Df P w K mg base "_matrix" 1 ["size", "places"] (spMat T K (fr 0)) := by
  refine df_sp C (i := 38) (x := "_matrix") (N := ["size", "places", "k", "j"]) rfl sc__matrix (fun _ _ _ _ _ _ us hl => match us, hl with | [_, _], _ => rfl) ?_ fun cdv A outer s H E fa hr => ⟨_, (pss_one (ps_ret (pe_callTy (call_tupleK K rfl) (by rfl) (C.free 16 _ rfl) (by decide +kernel) (pa_cons (pe_lc rfl sc__matrix.nd (pi_range1 (by rfl) (C.free 11 _ rfl) (pa_cons (pv 0) pa_nil)) (blkOk_by (own := [("k", 2)]) (by kernel_rfl)) (fun _ _ _ _ _ => (pg_name (i := 2) sc__matrix.nd rfl (by first | exact Or.inl rfl | exact Or.inr rfl))) (fun _ _ _ _ _ => pts_nil) (fun _ _ _ _ _ => (pe_callTy (call_tupleK K rfl) (by rfl) (C.free 16 _ rfl) (by decide +kernel) (pa_cons (pe_lc rfl sc__matrix.nd (pi_range1 (by rfl) (C.free 11 _ rfl) (pa_cons (pv 0) pa_nil)) (blkOk_by (own := [("j", 3)]) (by kernel_rfl)) (fun _ _ _ _ _ => (pg_name (i := 3) sc__matrix.nd rfl (by first | exact Or.inl rfl | exact Or.inr rfl))) (fun _ _ _ _ _ => pts_nil) (fun _ _ _ _ _ => (pe_dget2 (room1 hr) (pv 1) (pe_tup (pa_cons (pv 2) (pa_cons (pv 3) pa_nil))) (pe_cstK K rfl (by rfl) (C.cst 3 _ rfl)) ⟨rfl, rfl, rfl, rfl⟩))) pa_nil)))) pa_nil)))), ?_⟩
  · rintro vs H Q E ⟨G, a, v, i, j, d, _, _, rfl, _⟩
    rfl
  · rintro vs H Q E ⟨G, a, v, i, j, d, s, t, rfl, ha, q, k⟩
    have inner : ∀ kk : Int, EvD T K _ [.dat (.int 2), .dic i j d, .dat (.int kk), .any] (.tuple [if i = kk ∧ j = 0 then d else fr 0, if i = kk ∧ j = 1 then d else fr 0]) := fun kk =>
      evd_cb (evds_cons (evf_lc (vs := [3]) (js := [3]) [if i = kk ∧ j = 0 then d else fr 0, if i = kk ∧ j = 1 then d else fr 0] (itd_rng1 (n := 2) (evds_cons (evd_var (i := 0) rfl) evds_nil) (by decide) (by decide)) (by decide) rfl (Nat.le_of_ble_eq_true rfl) fun l dd e hd he => by
        match l, hd, he with
        | 0, hd, he => cases hd; cases he; exact ⟨_, tgd_name, evd_dget (i := 1) (i2 := 2) (i3 := 3) rfl rfl rfl⟩
        | 1, hd, he => cases hd; cases he; exact ⟨_, tgd_name, evd_dget (i := 1) (i2 := 2) (i3 := 3) rfl rfl rfl⟩
        | _ + 2, hd, he => cases hd).ev evds_nil) tuple_L
    have body : StD T K _ [.dat (.int 2), .dic i j d, .any, .any] (.rt (matD i j d (fr 0))) :=
      std_ret (evd_cb (evds_cons (evf_lc (vs := [2]) (js := [2]) [.tuple [if i = 0 ∧ j = 0 then d else fr 0, if i = 0 ∧ j = 1 then d else fr 0], .tuple [if i = 1 ∧ j = 0 then d else fr 0, if i = 1 ∧ j = 1 then d else fr 0]] (itd_rng1 (n := 2) (evds_cons (evd_var (i := 0) rfl) evds_nil) (by decide) (by decide)) (by decide) rfl (Nat.le_of_ble_eq_true rfl) fun l dd e hd he => by
        match l, hd, he with
        | 0, hd, he => cases hd; cases he; exact ⟨_, tgd_name, inner 0⟩
        | 1, hd, he => cases hd; cases he; exact ⟨_, tgd_name, inner 1⟩
        | _ + 2, hd, he => cases hd).ev evds_nil) tuple_L)
    exact body G H _ G H _ t (.refl s) (en_mat ha q) fun u G' H' g q' => k u G' H' g q'
theorem sc_spring_push : FnScope [] [] (defScope (top 57)) := ⟨rfl, rfl, rfl, by decide +kernel, rfl, by decide +kernel, by decide +kernel⟩
theorem d_spring_push (C : CT P w K mg base T) : Df P w K mg base "spring_push" 2 [] (spF T K fSpring) := by
  refine df_of C (i := 40) (x := "spring_push") (N := []) (n := 0) rfl sc_spring_push (fun _ _ _ _ _ _ us hl => match us, hl with | [], _ => rfl) ?_ rfl fun cdv A outer s H E fa hr => ⟨_, (pss_one (ps_ret (pe_tup (pa_cons (pe_dfK (d_matrix C) rfl rfl rfl rfl rfl hr (by rfl) (pa_cons pe_int (pa_cons (pe_disp1 (room1 hr) (pe_tup (pa_cons pe_int (pa_cons pe_int pa_nil))) (pe_cstK K rfl (by rfl) (C.cst 5 _ rfl))) pa_nil))) (pa_cons (pe_dfK (d_matrix C) rfl rfl rfl rfl rfl hr (by rfl) (pa_cons pe_int (pa_cons (pe_disp1 (room1 hr) (pe_tup (pa_cons pe_int (pa_cons pe_int pa_nil))) (pe_cstK K rfl (by rfl) (C.cst 5 _ rfl))) pa_nil))) pa_nil))))), ?_⟩
  · rintro _ _ ⟨rfl, rfl⟩
    rfl
  · rintro _ _ ⟨rfl, rfl⟩
    refine std_ret (EvD.is (evd_tup (evds_cons evd_callMat (evds_cons evd_callMat evds_nil)) (Nat.le_of_ble_eq_true rfl)) ?_)
    rfl
end
end K37
namespace K37
open PySem PySem.Spec L2
local macro_rules | `(tactic| walk_at "sz") => `(tactic| first | assumption | decide | omega)
local macro_rules | `(tactic| walk_at "call") => `(tactic| fail "no call")
local macro_rules | `(tactic| walk_at "cb") => `(tactic| first
  | with_reducible exact gcd_D | with_reducible exact len_T | with_reducible exact len_L | with_reducible exact tuple_L | with_reducible exact tuple_T | with_reducible exact max_D | with_reducible exact min_D | with_reducible exact abs_D
  | with_reducible exact int_D | with_reducible exact int_B)
local macro_rules | `(tactic| walk_at "op") => `(tactic| first
  | with_reducible exact minus_int | with_reducible exact plus_int | ((with_reducible apply times_int); walk_at "sz") | ((with_reducible apply ix_tupD); exact rfl) | ((with_reducible apply ix_lstD); exact rfl)
  | with_reducible exact lt_intD | with_reducible exact le_intD | with_reducible exact gt_intD | with_reducible exact ge_intD
  | ((with_reducible apply eq_D) <;> first | exact rfl | exact fr_shaped _ | assumption) | ((with_reducible apply ne_D) <;> first | exact rfl | exact fr_shaped _ | assumption)
  | ((with_reducible apply fdiv_int); walk_at "sz") | ((with_reducible apply fmod_int); walk_at "sz")
  | ((with_reducible apply plus_tup); walk_at "sz") | ((with_reducible apply plus_lst); walk_at "sz"))
local macro_rules | `(tactic| walk_at "evs") => `(tactic| first
  | with_reducible exact evds_nil
  | ((with_reducible apply evds_cons); (· walk_at "ev"); (· walk_at "evs")))
local macro_rules | `(tactic| walk_at "ev") => `(tactic| first
  | assumption
  | ((with_reducible apply evd_var); exact rfl)
  | with_reducible exact evd_int | with_reducible exact evd_cst | with_reducible exact evd_non | with_reducible exact evd_bl
  | ((with_reducible apply evd_op); (· walk_at "ev"); (· walk_at "ev"); (· walk_at "op"))
  | ((with_reducible apply evd_un); (· walk_at "ev"); (· with_reducible exact neg_intD))
  | ((with_reducible apply evd_call); (· walk_at "evs"); (· walk_at "call"))
  | ((with_reducible apply evd_cb); (· walk_at "evs"); (· walk_at "cb"))
  | ((with_reducible apply evd_tup); (· walk_at "evs"); (· exact Nat.le_of_ble_eq_true rfl))
  | ((with_reducible apply evd_isN); walk_at "ev") | ((with_reducible apply evd_notN); walk_at "ev")
  | ((with_reducible apply evd_not); walk_at "ev"))
local macro_rules | `(tactic| walk_at "te") => `(tactic| first
  | ((with_reducible apply ted_test); walk_at "ev") | ((with_reducible apply ted_B); walk_at "ev") | ((with_reducible apply ted_not); walk_at "te"))

/-! ### tables, as data -/
abbrev ll (e : Po × Po) : PyData := .list [pl e.1, pl e.2]
abbrev tl (t : Tbl) : PyData := .list [ll t.1, ll t.2]
def SmP (n a : Nat) (p : Po) : Prop := p.length ≤ n ∧ ∀ c ∈ p, Sm a c
def SmE (n a : Nat) (e : Po × Po) : Prop := SmP n a e.1 ∧ SmP n a e.2
def SmT (n a : Nat) (t : Tbl) : Prop := SmE n a t.1 ∧ SmE n a t.2
theorem SmP.mono {n m a b : Nat} {p : Po} (h : SmP n a p) (l1 : n ≤ m) (l2 : a ≤ b) : SmP m b p := ⟨Nat.le_trans h.1 l1, fun c hc => (h.2 c hc).mono l2⟩
theorem SmP.l {n a : Nat} {p : Po} (h : SmP n a p) (l1 : n ≤ 500 := by decide) (l2 : a ≤ 4000 := by decide) : SmL p := ⟨Nat.le_trans h.1 l1, fun c hc => (h.2 c hc).mono l2⟩
theorem sm_pscale {n a b : Nat} {p : Po} {x : Rat} (h : SmP n a p) (hx : Sm b x) : SmP n (a + b) (pscale x p) := by
  refine ⟨Nat.le_trans (trim_len _) (by simpa using h.1), fun c hc => ?_⟩
  obtain ⟨y, hy, rfl⟩ := List.mem_map.mp (trim_mem hc)
  exact (h.2 y hy).mul hx
theorem sm_zero (a : Nat) (ha : 0 < a) : Sm a 0 := Bq.sm (D := 1) (B := 0) Bq.zero (by decide) (Nat.one_lt_two_pow (by omega)) (Nat.pow_pos (by decide))
theorem sm_padd {n a b : Nat} {p q : Po} (h : SmP n a p) (g : SmP n b q) (ha : 0 < a) (hb : 0 < b) : SmP n (a + b + 1) (padd p q) := by
  refine ⟨Nat.le_trans (trim_len _) (by rw [addL_len]; exact Nat.max_le.mpr ⟨h.1, g.1⟩), fun c hc => ?_⟩
  have hc := trim_mem hc
  unfold addL at hc
  obtain ⟨i, hi⟩ := List.mem_iff_getElem?.mp hc
  rw [List.getElem?_zipWith] at hi
  have padS : ∀ {p : Po} {m a : Nat}, 0 < a → (∀ c ∈ p, Sm a c) → ∀ {x : Rat}, (pad p m)[i]? = some x → Sm a x := fun {p m a} ha hp {x} hx => by
    rcases List.mem_append.mp (mem_get hx) with z | z
    · exact hp x z
    · rw [(List.mem_replicate.mp z).2]; exact sm_zero a ha
  cases h1 : (pad p (max p.length q.length))[i]? with
  | none => rw [h1] at hi; cases hi
  | some x =>
    cases h2 : (pad q (max p.length q.length))[i]? with
    | none => rw [h1, h2] at hi; cases hi
    | some y =>
      rw [h1, h2] at hi
      cases hi
      exact (padS ha h.2 h1).add (padS hb g.2 h2)
theorem sm_pstep {n a : Nat} {p : Po} (h : SmP n a p) (ha : 0 < a) : SmP (n + 1) a (pstep p) := by
  unfold pstep
  split
  · exact ⟨Nat.zero_le _, fun c hc => by cases hc⟩
  · refine ⟨Nat.le_trans (trim_len _) (by simp; exact h.1), fun c hc => ?_⟩
    rcases List.mem_cons.mp (trim_mem hc) with z | z
    · rw [z]; exact sm_zero a ha
    · exact h.2 c z
theorem sm_nilp {n a : Nat} : SmP n a [] := ⟨Nat.zero_le _, fun c hc => by cases hc⟩
theorem scl1_sm {n a b : Nat} {x : Rat} {e : Po} (he : SmP n a e) (hx : Sm b x) : SmP n (a + b) (scl x e []) := by
  unfold scl
  split
  · exact sm_nilp
  · rw [nil_padd (tr_pscale _ _)]
    exact sm_pscale he hx
theorem sum_sm {n a : Nat} {r : Vc} {e : Po × Po} (he : SmE n a e) (hr : SmV 5 r) (ha : 0 < a) : SmP n (a + 5 + (a + 5) + 1) (sumP r e) := by
  have h1 := scl1_sm he.1 hr.1
  unfold sumP
  show SmP n _ (if r.2 = 0 then _ else _)
  split
  · exact h1.mono (Nat.le_refl _) (by omega)
  · exact sm_padd h1 (sm_pscale he.2 hr.2) (by omega) (by omega)
def fSum (ds : List PyData) (d : PyData) : Prop := ∃ (r : Vc) (t : Tbl) (j : Nat), ds = [vt r, tl t, .int (j : Nat)] ∧ j < 2 ∧ SmV 5 r ∧ SmT 200 1950 t ∧ d = pl (sumP r (if j = 0 then col0 t else col1 t))
def fLine (ds : List PyData) (d : PyData) : Prop := ∃ (r : Vc) (sh : Rat) (t : Tbl), ds = [vt r, fr sh, tl t] ∧ SmV 5 r ∧ Sm 4000 sh ∧ SmT 200 1950 t ∧ d = ll (lineP r sh t)
def fLed (ds : List PyData) (d : PyData) : Prop := ∃ (N : Mx) (x : Rat) (t : Tbl), ds = [mt N, fr x, tl t] ∧ SmM 5 N ∧ NilM N ∧ Sm 30 x ∧ SmT 100 900 t ∧ TrT t ∧ d = tl (ledT N x t)
section
variable {P : Program} {w : World} {K : PySem.W.Frag} {mg : Str → Option Value} {base : Heap} {T : Tb}
local macro_rules | `(tactic| walk_at "call") => `(tactic| with_reducible exact c_whole)
local macro_rules | `(tactic| walk_at "call") => `(tactic| ((with_reducible apply c_over) <;> walk_at "sz"))
theorem sc__sum_of : FnScope ["rates", "table", "column", "total", "x", "line"] ["rates", "table", "column"] (defScope (top 58)) := ⟨rfl, rfl, rfl, by decide +kernel, rfl, by decide +kernel, by decide +kernel⟩
theorem d_sum_of (C : CT P w K mg base T) : Df P w K mg base "_sum_of" 11 ["rates", "table", "column"] (spF T K fSum) := by
  refine df_of C (i := 41) (x := "_sum_of") (N := ["rates", "table", "column", "total", "x", "line"]) (n := 3) rfl sc__sum_of (fun _ _ _ _ _ _ us hl => match us, hl with | [_, _, _], _ => rfl) ?_ rfl fun cdv A outer s H E fa hr => ⟨_, (pss_cons (ps_set (i := 3) sc__sum_of.nd rfl (by first | exact Or.inl rfl | exact Or.inr rfl) (pe_tup pa_nil))
  (pss_cons (ps_for PassesOwn.never rfl (pi_zipX K rfl (by rfl) (C.free 17 _ rfl) (pa_cons (pv 0) (pa_cons (pv 1) pa_nil))) (pg_tupK K rfl (n := 2) rfl (pgs_cons (pg_name (i := 4) sc__sum_of.nd rfl (by first | exact Or.inl rfl | exact Or.inr rfl)) (pgs_cons (pg_name (i := 5) sc__sum_of.nd rfl (by first | exact Or.inl rfl | exact Or.inr rfl)) pgs_nil))) (pss_one (ps_if (pt_cmpR (op_neK K rfl hr.units) (pv 4) (pe_cstK K rfl (by rfl) (C.cst 3 _ rfl)) (nomark _)) (pss_one (ps_set (i := 3) sc__sum_of.nd rfl (by first | exact Or.inl rfl | exact Or.inr rfl) (pe_dfK (d_poly_plus C) rfl rfl rfl rfl rfl hr (by rfl) (pa_cons (pv 3) (pa_cons (pe_dfK (d_poly_scaled C) rfl rfl rfl rfl rfl hr (by rfl) (pa_cons (pe_ix (ix_seqK K rfl) (pv 5) (pv 2) (fun _ _ => rfl)) (pa_cons (pv 4) pa_nil))) pa_nil))))) pss_nil)))
  (pss_one (ps_ret (pv 3))))), ?_⟩
  · rintro _ _ ⟨r, t, j, rfl, hj, hr, ht, rfl⟩
    rfl
  · rintro _ _ ⟨r, t, j, rfl, hj, hr, ht, rfl⟩
    have step : ∀ (x : Rat) (u : Po) (e : Po × Po) (pe : Po), Sm 4000 x → SmL u → SmL pe → SmL (pscale x pe) → atI [pl e.1, pl e.2] ((j : Nat) : Int) = some (pl pe) → StD T K (tIfS (tTest (tOp (rNeD K) (tVar 4) (tCst K (fr 0)))) (tAsg (tCall (spF T K fPplus) [] E0 (tCons (tVar 3) (tCons (tCall (spF T K fPscale) [] E0 (tCons (tOp (rIx K) (tVar 5) (tVar 2)) (tCons (tVar 4) tNil))) tNil))) (gName 3)) tNext)
        [.dat (vt r), .dat (tl t), .dat (.int (j : Nat)), .dat (pl u), .dat (fr x), .dat (ll e)] (.nx [.dat (vt r), .dat (tl t), .dat (.int (j : Nat)), .dat (pl (scl x pe u)), .dat (fr x), .dat (ll e)]) := fun x u e pe hx hu hpe hps hat => by
      have te : TeD T K (tTest (tOp (rNeD K) (tVar 4) (tCst K (fr 0)))) [.dat (vt r), .dat (tl t), .dat (.int (j : Nat)), .dat (pl u), .dat (fr x), .dat (ll e)] (!decide (x = 0)) := TeD.is (by walk_at "te") (by rw [fr_eqv])
      by_cases h : x = 0
      · have e1 : scl x pe u = u := if_pos h
        rw [e1]
        exact std_if (TeD.is te (by rw [decide_eq_true h]; try rfl)) (fun h => by cases h) fun _ => std_next
      · have e1 : scl x pe u = padd u (pscale x pe) := if_neg h
        rw [e1]
        refine std_if (TeD.is te (by rw [decide_eq_false h]; try rfl)) (fun _ => ?_) fun h => by cases h
        exact std_asg (evd_call (evds_cons (evd_var rfl) (evds_cons (evd_call (evds_cons (evd_op (evd_var rfl) (evd_var rfl) (ix_lstD hat)) (evds_cons (evd_var rfl) evds_nil)) (c_pscale hpe hx)) evds_nil)) (c_pplus hu hps))
    have two : ∀ e : Po × Po, atI [pl e.1, pl e.2] ((j : Nat) : Int) = some (pl (if j = 0 then e.1 else e.2)) := fun e => by
      refine at_nat ?_
      match j, hj with
      | 0, _ => rfl
      | 1, _ => rfl
    have hcol : (if j = 0 then col0 t else col1 t) = (if j = 0 then t.1.1 else t.1.2, if j = 0 then t.2.1 else t.2.2) := by split <;> rfl
    rw [hcol]
    have r1 := hr.1.mono (show 5 ≤ 4000 by decide)
    have r2 := hr.2.mono (show 5 ≤ 4000 by decide)
    have s1 : SmP 200 1950 (if j = 0 then t.1.1 else t.1.2) := by
      split
      · exact ht.1.1
      · exact ht.1.2
    have s2 : SmP 200 1950 (if j = 0 then t.2.1 else t.2.2) := by
      split
      · exact ht.2.1
      · exact ht.2.2
    have g1 := step r.1 [] t.1 _ r1 (sm_nilp (n := 0) (a := 0)).l s1.l (sm_pscale s1 hr.1).l (two t.1)
    have g2 := step r.2 (scl r.1 (if j = 0 then t.1.1 else t.1.2) []) t.2 _ r2 (scl1_sm s1 hr.1).l s2.l (sm_pscale s2 hr.2).l (two t.2)
    refine std_seq (ρ1 := [.dat (vt r), .dat (tl t), .dat (.int (j : Nat)), .dat (pl []), .any, .any]) (std_asg (EvD.is (evd_tup evds_nil (Nat.zero_le _)) rfl)) ?_
    refine std_seq (ρ1 := [.dat (vt r), .dat (tl t), .dat (.int (j : Nat)), .dat (pl (sumP r (if j = 0 then t.1.1 else t.1.2, if j = 0 then t.2.1 else t.2.2))), .any, .any]) ?_ (std_ret (by walk_at "ev"))
    refine std_weakN (ρ1 := [.dat (vt r), .dat (tl t), .dat (.int (j : Nat)), .dat (pl (sumP r (if j = 0 then t.1.1 else t.1.2, if j = 0 then t.2.1 else t.2.2))), .dat (fr r.2), .dat (ll t.2)]) ?_ rfl ?_
    · refine std_for (js := [4, 5]) (ρs := fun i => match i with | 0 => [.dat (vt r), .dat (tl t), .dat (.int (j : Nat)), .dat (pl []), .any, .any] | 1 => [.dat (vt r), .dat (tl t), .dat (.int (j : Nat)), .dat (pl (scl r.1 (if j = 0 then t.1.1 else t.1.2) [])), .dat (fr r.1), .dat (ll t.1)] | _ => [.dat (vt r), .dat (tl t), .dat (.int (j : Nat)), .dat (pl (sumP r (if j = 0 then t.1.1 else t.1.2, if j = 0 then t.2.1 else t.2.2))), .dat (fr r.2), .dat (ll t.2)]) (itd_zip false true (ds := [fr r.1, fr r.2]) (es := [ll t.1, ll t.2]) (evds_cons (EvD.is (evd_var (i := 0) rfl) rfl) (evds_cons (EvD.is (evd_var (i := 1) rfl) rfl) evds_nil))) fun i d hd => ?_
      match i, hd with
      | 0, hd => cases hd; exact ⟨_, tgd_tup2 tgd_name tgd_name, g1⟩
      | 1, hd => cases hd; exact ⟨_, tgd_tup2 tgd_name tgd_name, g2⟩
      | _ + 2, hd => cases hd
    · intro i s h
      match i, h with
      | 0, h => exact .inr h
      | 1, h => exact .inr h
      | 2, h => exact .inr h
      | 3, h => exact .inr h
      | 4, h => exact .inl (Option.some.inj h).symm
      | 5, h => exact .inl (Option.some.inj h).symm
      | _ + 6, h => cases h
theorem c_sum0 {r : Vc} {t : Tbl} (hr : SmV 5 r) (ht : SmT 200 1950 t) : fSum [vt r, tl t, .int ((0 : Nat) : Int)] (pl (sumP r (col0 t))) := ⟨r, t, 0, rfl, by decide, hr, ht, rfl⟩
theorem c_sum1 {r : Vc} {t : Tbl} (hr : SmV 5 r) (ht : SmT 200 1950 t) : fSum [vt r, tl t, .int ((1 : Nat) : Int)] (pl (sumP r (col1 t))) := ⟨r, t, 1, rfl, by decide, hr, ht, rfl⟩
theorem sumL {n a : Nat} {r : Vc} {e : Po × Po} (he : SmE n a e) (hr : SmV 5 r) (ha : 0 < a) (hn : n ≤ 400) (h2 : a + 5 + (a + 5) + 1 ≤ 4000) : SmL (sumP r e) ∧ SmL (pstep (sumP r e)) := by
  have h := sum_sm he hr ha
  exact ⟨h.l (by omega) h2, (sm_pstep h (by omega)).l (by omega) h2⟩
theorem sc__line_on : FnScope ["rates", "share", "table", "k"] ["rates", "share", "table"] (defScope (top 59)) := ⟨rfl, rfl, rfl, by decide +kernel, rfl, by decide +kernel, by decide +kernel⟩
theorem d_line_on (C : CT P w K mg base T) : Df P w K mg base "_line_on" 12 ["rates", "share", "table"] (spF T K fLine) := by
  refine df_of C (i := 42) (x := "_line_on") (N := ["rates", "share", "table", "k"]) (n := 1) rfl sc__line_on (fun _ _ _ _ _ _ us hl => match us, hl with | [_, _, _], _ => rfl) ?_ rfl fun cdv A outer s H E fa hr => ⟨_, (pss_one (ps_ret (pe_lc rfl sc__line_on.nd (pi_range1 (by rfl) (C.free 11 _ rfl) (pa_cons (pe_callB (call_lenK K rfl) (by rfl) (C.free 7 _ rfl) (by decide +kernel) (pa_cons (pv 0) pa_nil)) pa_nil)) (blkOk_by (own := [("k", 3)]) (by kernel_rfl)) (fun _ _ _ _ _ => (pg_name (i := 3) sc__line_on.nd rfl (by first | exact Or.inl rfl | exact Or.inr rfl))) (fun _ _ _ _ _ => pts_nil) (fun _ _ _ _ _ => (pe_dfK (d_poly_scaled C) rfl rfl rfl rfl rfl hr (by rfl) (pa_cons (pe_dfK (d_poly_times C) rfl rfl rfl rfl rfl hr (by rfl) (pa_cons (pe_cstK K rfl (by rfl) (C.cst 6 _ rfl)) (pa_cons (pe_dfK (d_sum_of C) rfl rfl rfl rfl rfl hr (by rfl) (pa_cons (pv 0) (pa_cons (pv 2) (pa_cons (pv 3) pa_nil)))) pa_nil))) (pa_cons (pv 1) pa_nil))))))), ?_⟩
  · rintro _ _ ⟨r, sh, t, rfl, hr, hs, ht, rfl⟩
    rfl
  · rintro _ _ ⟨r, sh, t, rfl, hr, hs, ht, rfl⟩
    have c0 : SmE 200 1950 (col0 t) := ⟨ht.1.1, ht.2.1⟩
    have c1 : SmE 200 1950 (col1 t) := ⟨ht.1.2, ht.2.2⟩
    obtain ⟨a1, a2⟩ := sumL c0 hr (by decide) (by decide) (by decide)
    obtain ⟨b1, b2⟩ := sumL c1 hr (by decide) (by decide) (by decide)
    refine std_ret (evf_lc (js := [3]) [pl (ent r sh (col0 t)), pl (ent r sh (col1 t))] (itd_rng1 (n := 2) (evds_cons (EvD.is (evd_cb (evds_cons (evd_var (i := 0) rfl) evds_nil) len_T) rfl) evds_nil) (by decide) (by decide)) (by decide) rfl (Nat.le_of_ble_eq_true rfl) fun l d e hd he => ?_).ev
    match l, hd, he with
    | 0, hd, he =>
      cases hd; cases he
      exact ⟨_, tgd_name, evd_call (evds_cons (evd_call (evds_cons (EvD.is evd_cst rfl) (evds_cons (evd_call (evds_cons (evd_var rfl) (evds_cons (evd_var rfl) (evds_cons (EvD.is (evd_var rfl) rfl) evds_nil))) (c_sum0 hr ht)) evds_nil)) (c_pstep a1)) (evds_cons (evd_var rfl) evds_nil)) (c_pscale a2 hs)⟩
    | 1, hd, he =>
      cases hd; cases he
      exact ⟨_, tgd_name, evd_call (evds_cons (evd_call (evds_cons (EvD.is evd_cst rfl) (evds_cons (evd_call (evds_cons (evd_var rfl) (evds_cons (evd_var rfl) (evds_cons (EvD.is (evd_var rfl) rfl) evds_nil))) (c_sum1 hr ht)) evds_nil)) (c_pstep b1)) (evds_cons (evd_var rfl) evds_nil)) (c_pscale b2 hs)⟩
    | _ + 2, hd, he => cases hd
theorem c_line {r : Vc} {sh : Rat} {t : Tbl} (hr : SmV 5 r) (hs : Sm 4000 sh) (ht : SmT 200 1950 t) : fLine [vt r, fr sh, tl t] (ll (lineP r sh t)) := ⟨r, sh, t, rfl, hr, hs, ht, rfl⟩
abbrev led6 : List Sl := [.any, .any, .any, .any, .any, .any]
theorem led_turn {N : Mx} {x : Rat} {t0 t u : Tbl} {k : Nat} (hN : SmM 5 N) (hx : Sm 4000 x) (ht : SmT 200 1950 t) (hu : SmL u.1.1 ∧ SmL u.1.2 ∧ SmL u.2.1 ∧ SmL u.2.2) (hk : k < 10) (h4 : Sm 4000 (x / (((k + 1 : Nat) : Int) : Rat)))
    (h5 : ∀ t', t' = termT N (x / (((k + 1 : Nat) : Int) : Rat)) t → SmL t'.1.1 ∧ SmL t'.1.2 ∧ SmL t'.2.1 ∧ SmL t'.2.2) {tb1 tb2 tb3 : TS}
    (e1 : tb1 = tAug 5 (tC (.int 1)) (ipI (· + ·)))
    (e2 : tb2 = tAsg (tLc (iSeq K (tVar 0)) (gName 8) tYes (tCall (spF T K fLine) [] E0 (tCons (tVar 8) (tCons (tCall (spF T K fOver) [] E0 (tCons (tVar 1) (tCons (tCall (spF T K fWhole) [] E0 (tCons (tVar 5) tNil)) tNil))) (tCons (tVar 3) tNil)))) [8]) (gName 3))
    (e3 : tb3 = tAsg (tLc (iZipX K (tCons (tVar 4) (tCons (tVar 3) tNil))) (gTup K 2 (gCons (gName 6) (gCons (gName 9) gNil))) tYes (tLc (iZipX K (tCons (tVar 6) (tCons (tVar 9) tNil))) (gTup K 2 (gCons (gName 10) (gCons (gName 11) gNil))) tYes (tCall (spF T K fPplus) [] E0 (tCons (tVar 10) (tCons (tVar 11) tNil))) [10, 11]) [6, 9]) (gName 4)) :
    StD T K (tSeq tb1 (tSeq tb2 tb3)) ([.dat (mt N), .dat (fr x), .dat (tl t0), .dat (tl t), .dat (tl u), .dat (.int (k : Nat))] ++ led6)
      (.nx ([.dat (mt N), .dat (fr x), .dat (tl t0), .dat (tl (termT N (x / (((k + 1 : Nat) : Int) : Rat)) t)), .dat (tl (addT u (termT N (x / (((k + 1 : Nat) : Int) : Rat)) t))), .dat (.int ((k + 1 : Nat) : Int))] ++ led6)) := by
  subst e1 e2 e3
  have ek : ((k : Nat) : Int) + 1 = ((k + 1 : Nat) : Int) := by omega
  have h0 := int_ne k
  have sk : Sm 4000 ((((k + 1 : Nat) : Int) : Rat)) := by
    have := (Bq.int ((k + 1 : Nat) : Int)).sm (n := 4000) (by decide) (p4000 (by decide)) (p4000 (by simp; omega))
    exact this
  refine std_seq (std_aug (i := 5) rfl evd_int) ?_
  rw [ek]
  have fin := h5 _ rfl
  generalize hsh : x / (((k + 1 : Nat) : Int) : Rat) = sh at *
  have esh : ∀ {ρ : List Sl}, ρ[1]? = some (.dat (fr x)) → ρ[5]? = some (.dat (.int ((k + 1 : Nat) : Int))) → EvD T K (tCall (spF T K fOver) [] E0 (tCons (tVar 1) (tCons (tCall (spF T K fWhole) [] E0 (tCons (tVar 5) tNil)) tNil))) ρ (fr sh) := fun h1 h2 => by
    rw [← hsh]
    exact evd_call (evds_cons (evd_var h1) (evds_cons (evd_call (evds_cons (evd_var h2) evds_nil) c_whole) evds_nil)) (c_over hx sk h0)
  refine std_seq (std_asg (d := tl (termT N sh t)) (evf_lc (js := [8]) [ll (lineP N.1 sh t), ll (lineP N.2 sh t)] (itd_T (ds := [vt N.1, vt N.2]) (evd_var rfl)) (by decide) rfl (Nat.le_of_ble_eq_true rfl) fun i d e hd he => ?_).ev) ?_
  · match i, hd, he with
    | 0, hd, he => cases hd; cases he; exact ⟨_, tgd_name, evd_call (evds_cons (evd_var rfl) (evds_cons (esh rfl rfl) (evds_cons (evd_var rfl) evds_nil))) (c_line hN.1 h4 ht)⟩
    | 1, hd, he => cases hd; cases he; exact ⟨_, tgd_name, evd_call (evds_cons (evd_var rfl) (evds_cons (esh rfl rfl) (evds_cons (evd_var rfl) evds_nil))) (c_line hN.2 h4 ht)⟩
    | _ + 2, hd, he => cases hd
  · generalize termT N sh t = v at *
    have inner : ∀ (a b : Po × Po) (ρ : List Sl), SmL a.1 → SmL a.2 → SmL b.1 → SmL b.2 → (ρ = ([.dat (mt N), .dat (fr x), .dat (tl t0), .dat (tl v), .dat (tl u), .dat (.int ((k + 1 : Nat) : Int)), .dat (ll a), .any, .any, .dat (ll b), .any, .any] : List Sl)) →
        EvF T K (tLc (iZipX K (tCons (tVar 6) (tCons (tVar 9) tNil))) (gTup K 2 (gCons (gName 10) (gCons (gName 11) gNil))) tYes (tCall (spF T K fPplus) [] E0 (tCons (tVar 10) (tCons (tVar 11) tNil))) [10, 11]) ρ [pl (padd a.1 b.1), pl (padd a.2 b.2)] := fun a b ρ s1 s2 s3 s4 hρ => by
      subst hρ
      refine evf_lc (js := [10, 11]) _ (itd_zip true true (ds := [pl a.1, pl a.2]) (es := [pl b.1, pl b.2]) (evds_cons (EvD.is (evd_var (i := 6) rfl) rfl) (evds_cons (EvD.is (evd_var (i := 9) rfl) rfl) evds_nil))) (by decide) rfl (Nat.le_of_ble_eq_true rfl) fun i d e hd he => ?_
      match i, hd, he with
      | 0, hd, he => cases hd; cases he; exact ⟨_, tgd_tup2 tgd_name tgd_name, evd_call (evds_cons (evd_var rfl) (evds_cons (evd_var rfl) evds_nil)) (c_pplus s1 s3)⟩
      | 1, hd, he => cases hd; cases he; exact ⟨_, tgd_tup2 tgd_name tgd_name, evd_call (evds_cons (evd_var rfl) (evds_cons (evd_var rfl) evds_nil)) (c_pplus s2 s4)⟩
      | _ + 2, hd, he => cases hd
    refine std_asg (d := tl (addT u v)) (evf_lc (js := [6, 9]) [ll (addT u v).1, ll (addT u v).2] (itd_zip true true (ds := [ll u.1, ll u.2]) (es := [ll v.1, ll v.2]) (evds_cons (EvD.is (evd_var (i := 4) rfl) rfl) (evds_cons (EvD.is (evd_var (i := 3) rfl) rfl) evds_nil))) (by decide) rfl (Nat.le_of_ble_eq_true rfl) fun i d e hd he => ?_).ev
    obtain ⟨u1, u2, u3, u4⟩ := hu
    obtain ⟨v1, v2, v3, v4⟩ := fin
    match i, hd, he with
    | 0, hd, he => cases hd; cases he; exact ⟨_, tgd_tup2 tgd_name tgd_name, (inner u.1 v.1 _ u1 u2 v1 v2 rfl).ev⟩
    | 1, hd, he => cases hd; cases he; exact ⟨_, tgd_tup2 tgd_name tgd_name, (inner u.2 v.2 _ u3 u4 v3 v4 rfl).ev⟩
    | _ + 2, hd, he => cases hd
theorem led_test {a b c : PyData} {t : Tbl} {d e : PyData} : TeD T K (tTest (tCB (rAny K) (tCons (tLc2 (iSeq K (tVar 3)) (gName 6) tYes (iSeq K (tVar 6)) (gName 7) tYes (tOp (rNeD K) (tVar 7) (tTup tNil)) [6, 7] [7]) tNil))) ([.dat a, .dat b, .dat c, .dat (tl t), .dat d, .dat e] ++ led6) (decide (t ≠ ZT)) := by
  have cell : ∀ (p : Po) (ρ : List Sl), ρ[7]? = some (.dat (pl p)) → EvD T K (tOp (rNeD K) (tVar 7) (tTup tNil)) ρ (.bool (!decide (p = []))) := fun p ρ h =>
    EvD.is (evd_op (evd_var h) (evd_tup evds_nil (Nat.zero_le _)) (ne_D (pl_shaped p) rfl)) (by rw [show PyData.eqv (pl p) (.tuple []) = decide (p = []) from pl_eqv p []])
  refine TeD.is (ted_test (evd_cb (evds_cons (EvF.is (evf_lc2 (js := [6]) (js1 := [7]) [[.bool (!decide (t.1.1 = [])), .bool (!decide (t.1.2 = []))], [.bool (!decide (t.2.1 = [])), .bool (!decide (t.2.2 = []))]] (itd_L (ds := [ll t.1, ll t.2]) (evd_var rfl)) (by decide) (by decide) rfl (Nat.le_of_ble_eq_true rfl) fun i d es hd he => ?_) (rfl : _ = [!decide (t.1.1 = []), !decide (t.1.2 = []), !decide (t.2.1 = []), !decide (t.2.2 = [])].map PyData.bool)).ev evds_nil) any_D)) ?_
  · match i, hd, he with
    | 0, hd, he =>
      cases hd; cases he
      refine ⟨_, [pl t.1.1, pl t.1.2], tgd_name, rfl, itd_L (evd_var rfl), rfl, fun k dk ek hk he2 => ?_⟩
      match k, hk, he2 with
      | 0, hk, he2 => cases hk; cases he2; exact ⟨_, tgd_name, cell _ _ rfl⟩
      | 1, hk, he2 => cases hk; cases he2; exact ⟨_, tgd_name, cell _ _ rfl⟩
      | _ + 2, hk, he2 => cases hk
    | 1, hd, he =>
      cases hd; cases he
      refine ⟨_, [pl t.2.1, pl t.2.2], tgd_name, rfl, itd_L (evd_var rfl), rfl, fun k dk ek hk he2 => ?_⟩
      match k, hk, he2 with
      | 0, hk, he2 => cases hk; cases he2; exact ⟨_, tgd_name, cell _ _ rfl⟩
      | 1, hk, he2 => cases hk; cases he2; exact ⟨_, tgd_name, cell _ _ rfl⟩
      | _ + 2, hk, he2 => cases hk
    | _ + 2, hd, he => cases hd
  · obtain ⟨⟨a1, a2⟩, ⟨a3, a4⟩⟩ := t
    unfold ZT
    by_cases h1 : a1 = [] <;> by_cases h2 : a2 = [] <;> by_cases h3 : a3 = [] <;> by_cases h4 : a4 = [] <;> simp [h1, h2, h3, h4]
theorem smt_l {n a : Nat} {t : Tbl} (h : SmT n a t) (l1 : n ≤ 500) (l2 : a ≤ 4000) : SmL t.1.1 ∧ SmL t.1.2 ∧ SmL t.2.1 ∧ SmL t.2.2 := ⟨h.1.1.l l1 l2, h.1.2.l l1 l2, h.2.1.l l1 l2, h.2.2.l l1 l2⟩
theorem ent_sm {n a b : Nat} {r : Vc} {e : Po × Po} {sh : Rat} (he : SmE n a e) (hr : SmV 5 r) (hs : Sm b sh) (ha : 0 < a) : SmP (n + 1) (a + 5 + (a + 5) + 1 + b) (ent r sh e) := sm_pscale (sm_pstep (sum_sm he hr ha) (by omega)) hs
theorem term_sm {n a b : Nat} {N : Mx} {t : Tbl} {sh : Rat} (ht : SmT n a t) (hN : SmM 5 N) (hs : Sm b sh) (ha : 0 < a) : SmT (n + 1) (a + 5 + (a + 5) + 1 + b) (termT N sh t) :=
  ⟨⟨ent_sm ⟨ht.1.1, ht.2.1⟩ hN.1 hs ha, ent_sm ⟨ht.1.2, ht.2.2⟩ hN.1 hs ha⟩, ⟨ent_sm ⟨ht.1.1, ht.2.1⟩ hN.2 hs ha, ent_sm ⟨ht.1.2, ht.2.2⟩ hN.2 hs ha⟩⟩
theorem SmT.mono {n m a b : Nat} {t : Tbl} (h : SmT n a t) (l1 : n ≤ m) (l2 : a ≤ b) : SmT m b t := ⟨⟨h.1.1.mono l1 l2, h.1.2.mono l1 l2⟩, ⟨h.2.1.mono l1 l2, h.2.2.mono l1 l2⟩⟩
theorem add_sm {n a b : Nat} {t u : Tbl} (h : SmT n a t) (g : SmT n b u) (ha : 0 < a) (hb : 0 < b) : SmT n (a + b + 1) (addT t u) := ⟨⟨sm_padd h.1.1 g.1.1 ha hb, sm_padd h.1.2 g.1.2 ha hb⟩, ⟨sm_padd h.2.1 g.2.1 ha hb, sm_padd h.2.2 g.2.2 ha hb⟩⟩
theorem half_sm {a : Nat} {x : Rat} (hx : Sm a x) : Sm (a + 2) (x / (((1 + 1 : Nat) : Int) : Rat)) := by
  have : x / (((1 + 1 : Nat) : Int) : Rat) = x * (Rat.divInt 1 2) := by
    rw [Rat.div_def]
    congr 1
    decide +kernel
  rw [this]
  have h2 : Sm 2 (Rat.divInt 1 2) := by unfold Sm; decide +kernel
  exact hx.mul h2
theorem div_one (x : Rat) : x / (((0 + 1 : Nat) : Int) : Rat) = x := by
  have : (((0 + 1 : Nat) : Int) : Rat) = 1 := rfl
  rw [this, Rat.div_def]
  have : (1 : Rat)⁻¹ = 1 := by decide +kernel
  rw [this, Rat.mul_one]
theorem sc__led : FnScope ["matrix", "x", "table", "term", "total", "many", "line", "poly", "rates", "more", "near", "far"] ["matrix", "x", "table"] (defScope (top 60)) := ⟨rfl, rfl, rfl, by decide +kernel, rfl, by decide +kernel, by decide +kernel⟩
theorem d_led (C : CT P w K mg base T) : Df P w K mg base "_led" 13 ["matrix", "x", "table"] (spF T K fLed) := by
  refine df_of C (i := 43) (x := "_led") (N := ["matrix", "x", "table", "term", "total", "many", "line", "poly", "rates", "more", "near", "far"]) (n := 9) rfl sc__led (fun _ _ _ _ _ _ us hl => match us, hl with | [_, _, _], _ => rfl) ?_ rfl fun cdv A outer s H E fa hr => ⟨_, (pss_cons (ps_asg (pe_tup (pa_cons (pv 2) (pa_cons (pv 2) (pa_cons pe_int pa_nil)))) (pg_tupK K rfl (n := 3) rfl (pgs_cons (pg_name (i := 3) sc__led.nd rfl (by first | exact Or.inl rfl | exact Or.inr rfl)) (pgs_cons (pg_name (i := 4) sc__led.nd rfl (by first | exact Or.inl rfl | exact Or.inr rfl)) (pgs_cons (pg_name (i := 5) sc__led.nd rfl (by first | exact Or.inl rfl | exact Or.inr rfl)) pgs_nil)))))
  (pss_cons (ps_while PassesOwn.never (pt_val (pe_callB (cr_anyK K rfl rfl) (by rfl) (C.free 2 _ rfl) (by decide +kernel) (pa_cons (pe_lc2 (vs1 := [7]) rfl sc__led.nd (pi_seqK K rfl (pv 3)) (blkOk_by (own := [("line", 6), ("poly", 7)]) (by kernel_rfl)) (by decide) (fun _ _ _ _ _ => (pg_name (i := 6) sc__led.nd rfl (by first | exact Or.inl rfl | exact Or.inr rfl))) (fun _ _ _ _ _ => pts_nil) (fun _ _ _ _ _ => (pi_seqK K rfl (pv 6))) (fun _ _ _ _ _ => (pg_name (i := 7) sc__led.nd rfl (by first | exact Or.inl rfl | exact Or.inr rfl))) (fun _ _ _ _ _ => pts_nil) (fun _ _ _ _ _ => (pe_cmpR (op_neK K rfl hr.units) (pv 7) (pe_tup pa_nil) (nomark _)))) pa_nil))) (pss_cons (ps_aug (i := 5) sc__led.nd rfl (by first | exact Or.inl rfl | exact Or.inr rfl) pe_int ip_add)
  (pss_cons (ps_set (i := 3) sc__led.nd rfl (by first | exact Or.inl rfl | exact Or.inr rfl) (pe_lc rfl sc__led.nd (pi_seqK K rfl (pv 0)) (blkOk_by (own := [("rates", 8)]) (by kernel_rfl)) (fun _ _ _ _ _ => (pg_name (i := 8) sc__led.nd rfl (by first | exact Or.inl rfl | exact Or.inr rfl))) (fun _ _ _ _ _ => pts_nil) (fun _ _ _ _ _ => (pe_dfK (d_line_on C) rfl rfl rfl rfl rfl hr (by rfl) (pa_cons (pv 8) (pa_cons (pe_dfK (d_over C) rfl rfl rfl rfl rfl hr (by rfl) (pa_cons (pv 1) (pa_cons (pe_dfK (d_whole C) rfl rfl rfl rfl rfl hr (by rfl) (pa_cons (pv 5) pa_nil)) pa_nil))) (pa_cons (pv 3) pa_nil)))))))
  (pss_one (ps_setLc (i := 4) rfl sc__led.nd rfl rfl (sw_true rfl rfl rfl (by kernel_rfl)) (pi_zipX K rfl (by rfl) (C.free 17 _ rfl) (pa_cons (pv 4) (pa_cons (pv 3) pa_nil))) (blkOk_by (own := [("line", 6), ("more", 9)]) (by kernel_rfl)) (fun _ _ _ _ _ => (pg_tupK K rfl (n := 2) rfl (pgs_cons (pg_name (i := 6) sc__led.nd rfl (by first | exact Or.inl rfl | exact Or.inr rfl)) (pgs_cons (pg_name (i := 9) sc__led.nd rfl (by first | exact Or.inl rfl | exact Or.inr rfl)) pgs_nil)))) (fun _ _ _ _ _ => pts_nil) (fun _ _ _ _ _ => (pe_lc rfl sc__led.nd (pi_zipX K rfl (by rfl) (C.free 17 _ rfl) (pa_cons (pv 6) (pa_cons (pv 9) pa_nil))) (blkOk_by (own := [("near", 10), ("far", 11)]) (by kernel_rfl)) (fun _ _ _ _ _ => (pg_tupK K rfl (n := 2) rfl (pgs_cons (pg_name (i := 10) sc__led.nd rfl (by first | exact Or.inl rfl | exact Or.inr rfl)) (pgs_cons (pg_name (i := 11) sc__led.nd rfl (by first | exact Or.inl rfl | exact Or.inr rfl)) pgs_nil)))) (fun _ _ _ _ _ => pts_nil) (fun _ _ _ _ _ => (pe_dfK (d_poly_plus C) rfl rfl rfl rfl rfl hr (by rfl) (pa_cons (pv 10) (pa_cons (pv 11) pa_nil)))))))))))
  (pss_one (ps_ret (pv 4))))), ?_⟩
  · rintro _ _ ⟨N, x, t, rfl, hN, hnil, hx, ht, htr, rfl⟩
    rfl
  · rintro _ _ ⟨N, x, t, rfl, hN, hnil, hx, ht, htr, rfl⟩
    let ρ : Tbl → Tbl → Nat → List Sl := fun a u k => [.dat (mt N), .dat (fr x), .dat (tl t), .dat (tl a), .dat (tl u), .dat (.int (k : Nat))] ++ led6
    have x4 := hx.mono (show 30 ≤ 4000 by decide)
    have t1s : SmT 101 1901 (termT N x t) := (term_sm ht hN hx (by decide)).mono (Nat.le_refl _) (by decide)
    have nil2 : ∀ y, termT N y (termT N x t) = ZT := fun y => term_nil hnil x y t
    have T1 := led_turn (T := T) (K := K) (t0 := t) (t := t) (u := t) (k := 0) hN x4 (ht.mono (by decide) (by decide)) (smt_l ht (by decide) (by decide)) (by decide) (by rw [div_one]; exact x4) (fun t' e => by rw [e, div_one]; exact smt_l t1s (by decide) (by decide)) rfl rfl rfl
    rw [div_one] at T1
    have zl : SmL ([] : Po) := (sm_nilp (n := 0) (a := 0)).l
    have T2 := led_turn (T := T) (K := K) (t0 := t) (t := termT N x t) (u := ledT N x t) (k := 1) hN x4 (t1s.mono (by decide) (by decide)) (smt_l (add_sm (ht.mono (show 100 ≤ 101 by decide) (Nat.le_refl _)) t1s (by decide) (by decide)) (by decide) (by decide)) (by decide) ((half_sm hx).mono (by decide)) (fun t' e => by rw [e, nil2]; exact ⟨zl, zl, zl, zl⟩) rfl rfl rfl
    rw [nil2, show addT (ledT N x t) ZT = ledT N x t from add_ZT (tr_addT _ _)] at T2
    refine std_seq (ρ1 := ρ t t 0) (std_asgG (d := .tuple [tl t, tl t, .int ((0 : Nat) : Int)]) (evd_tup (evds_cons (evd_var rfl) (evds_cons (evd_var rfl) (evds_cons evd_int evds_nil))) (Nat.le_of_ble_eq_true rfl)) (tgd_tup3 tgd_name tgd_name tgd_name)) ?_
    refine std_seq (ρ1 := [.any, .any, .any, .any, .dat (tl (ledT N x t)), .any] ++ led6) ?_ (std_ret (evd_var (i := 4) rfl))
    have weak : ∀ a k, ∀ (i : Nat) (s : Sl), ([Sl.any, .any, .any, .any, .dat (tl (ledT N x t)), .any] ++ led6)[i]? = some s → s = .any ∨ (ρ a (ledT N x t) k)[i]? = some s := fun a k i s h => by
      match i, h with
      | 0, h => exact .inl (Option.some.inj h).symm
      | 1, h => exact .inl (Option.some.inj h).symm
      | 2, h => exact .inl (Option.some.inj h).symm
      | 3, h => exact .inl (Option.some.inj h).symm
      | 4, h => exact .inr h
      | 5, h => exact .inl (Option.some.inj h).symm
      | 6, h => exact .inl (Option.some.inj h).symm
      | 7, h => exact .inl (Option.some.inj h).symm
      | 8, h => exact .inl (Option.some.inj h).symm
      | 9, h => exact .inl (Option.some.inj h).symm
      | 10, h => exact .inl (Option.some.inj h).symm
      | 11, h => exact .inl (Option.some.inj h).symm
      | _ + 12, h => cases h
    by_cases c0 : t = ZT
    · have e : ledT N x t = t := by
        show addT t (termT N x t) = t
        rw [c0, term_ZT]
        exact add_ZT ⟨⟨tr_nil, tr_nil⟩, ⟨tr_nil, tr_nil⟩⟩
      refine std_weakN (std_wh (ρ2 := ρ t (ledT N x t) 0) ?_) rfl (weak _ _)
      rw [e]
      exact .stop (TeD.is led_test (by simp [c0]))
    · by_cases c1 : termT N x t = ZT
      · refine std_weakN (std_wh (ρ2 := ρ (termT N x t) (ledT N x t) 1) ?_) rfl (weak _ _)
        exact .more (TeD.is led_test (by simp [c0])) T1 (.stop (TeD.is led_test (by simp [c1])))
      · refine std_weakN (std_wh (ρ2 := ρ ZT (ledT N x t) 2) ?_) rfl (weak _ _)
        exact .more (TeD.is led_test (by simp [c0])) T1 (.more (TeD.is led_test (by simp [c1])) T2 (.stop (TeD.is led_test (by simp))))
theorem c_led {N : Mx} {x : Rat} {t : Tbl} (h1 : SmM 5 N) (h2 : NilM N) (h3 : Sm 30 x) (h4 : SmT 100 900 t) (h5 : TrT t) : fLed [mt N, fr x, tl t] (tl (ledT N x t)) := ⟨N, x, t, rfl, h1, h2, h3, h4, h5, rfl⟩
/-! ### flow_table -/
abbrev tt2 (e : Po × Po) : PyData := .tuple [pl e.1, pl e.2]
abbrev tft (t : Tbl) : PyData := .tuple [tt2 t.1, tt2 t.2]
def IT : Tbl := (([1], []), ([], [1]))
def tabE (Ns : List Mx) (p : Int) (x : Rat) (t : Tbl) : Tbl := ledT (nm Ns p) x t
structure TabOk (Ns : List Mx) (r : Row) : Prop where
  few : Ns.length ≤ 10
  some_ : 0 < Ns.length
  mats : ∀ N ∈ Ns, SmM 5 N ∧ NilM N
  parts : ∀ p ∈ r, 0 ≤ p.1 ∧ p.1.toNat < Ns.length
  len : r.length ≤ 90
  xs : ∀ p ∈ r, Sm 30 p.2
  runs : ∀ i, i ≤ r.length → SmT 100 900 (act (tabE Ns) (r.take i) IT)
def fTable (ds : List PyData) (d : PyData) : Prop := ∃ (Ns : List Mx) (r : Row), ds = [rw_ r, pt Ns] ∧ TabOk Ns r ∧ d = tft (act (tabE Ns) r IT)
theorem tr_IT : TrT IT := by
  have h1 : Tr [1] := fun x hx => by cases hx; decide
  exact ⟨⟨h1, tr_nil⟩, ⟨tr_nil, h1⟩⟩
theorem tr_run (Ns : List Mx) : ∀ (r : Row) (t : Tbl), TrT t → TrT (act (tabE Ns) r t)
  | [], t, h => h
  | p :: r, t, h => tr_run Ns r _ (tr_addT _ _)
local macro_rules | `(tactic| walk_at "call") => `(tactic| ((with_reducible apply c_tup_pt); walk_at "sz"))
local macro_rules | `(tactic| walk_at "call") => `(tactic| ((with_reducible apply c_tuple_of_row); walk_at "sz"))
theorem sc_flow_table : FnScope ["row", "push", "matrices", "size", "table", "part", "x", "k", "j", "line"] ["row", "push"] (defScope (top 61)) := ⟨rfl, rfl, rfl, by decide +kernel, rfl, by decide +kernel, by decide +kernel⟩
theorem d_flow_table (C : CT P w K mg base T) : Df P w K mg base "flow_table" 14 ["row", "push"] (spF T K fTable) := by
  refine df_of C (i := 44) (x := "flow_table") (N := ["row", "push", "matrices", "size", "table", "part", "x", "k", "j", "line"]) (n := 8) rfl sc_flow_table (fun _ _ _ _ _ _ us hl => match us, hl with | [_, _], _ => rfl) ?_ rfl fun cdv A outer s H E fa hr => ⟨_, (pss_cons (ps_set (i := 2) sc_flow_table.nd rfl (by first | exact Or.inl rfl | exact Or.inr rfl) (pe_dfK (d_tuple_of C) rfl rfl rfl rfl rfl hr (by rfl) (pa_cons (pv 1) pa_nil)))
  (pss_cons (ps_set (i := 3) sc_flow_table.nd rfl (by first | exact Or.inl rfl | exact Or.inr rfl) (pe_callB (call_lenK K rfl) (by rfl) (C.free 7 _ rfl) (by decide +kernel) (pa_cons (pe_ix (ix_seqK K rfl) (pv 2) pe_int (fun _ _ => rfl)) pa_nil)))
  (pss_cons (ps_setLc (i := 4) rfl sc_flow_table.nd rfl rfl (sw_true rfl rfl rfl (by kernel_rfl)) (pi_range1 (by rfl) (C.free 11 _ rfl) (pa_cons (pv 3) pa_nil)) (blkOk_by (own := [("k", 7)]) (by kernel_rfl)) (fun _ _ _ _ _ => (pg_name (i := 7) sc_flow_table.nd rfl (by first | exact Or.inl rfl | exact Or.inr rfl))) (fun _ _ _ _ _ => pts_nil) (fun _ _ _ _ _ => (pe_lc rfl sc_flow_table.nd (pi_range1 (by rfl) (C.free 11 _ rfl) (pa_cons (pv 3) pa_nil)) (blkOk_by (own := [("j", 8)]) (by kernel_rfl)) (fun _ _ _ _ _ => (pg_name (i := 8) sc_flow_table.nd rfl (by first | exact Or.inl rfl | exact Or.inr rfl))) (fun _ _ _ _ _ => pts_nil) (fun _ _ _ _ _ => (pe_ifExp (pt_cmpR (op_eqK K rfl hr.units) (pv 7) (pv 8) (nomark _)) (pe_dfK (d_trimmed C) rfl rfl rfl rfl rfl hr (by rfl) (pa_cons (pe_tup (pa_cons (pe_cstK K rfl (by rfl) (C.cst 5 _ rfl)) pa_nil)) pa_nil)) (pe_tup pa_nil))))))
  (pss_cons (ps_for PassesOwn.never rfl (pi_seqK K rfl (pe_dfK (d_tuple_of C) rfl rfl rfl rfl rfl hr (by rfl) (pa_cons (pv 0) pa_nil))) (pg_tupK K rfl (n := 2) rfl (pgs_cons (pg_name (i := 5) sc_flow_table.nd rfl (by first | exact Or.inl rfl | exact Or.inr rfl)) (pgs_cons (pg_name (i := 6) sc_flow_table.nd rfl (by first | exact Or.inl rfl | exact Or.inr rfl)) pgs_nil))) (pss_one (ps_set (i := 4) sc_flow_table.nd rfl (by first | exact Or.inl rfl | exact Or.inr rfl) (pe_dfK (d_led C) rfl rfl rfl rfl rfl hr (by rfl) (pa_cons (pe_ix (ix_seqK K rfl) (pv 2) (pv 5) (fun _ _ => rfl)) (pa_cons (pv 6) (pa_cons (pv 4) pa_nil)))))))
  (pss_one (ps_ret (pe_callTy (call_tupleK K rfl) (by rfl) (C.free 16 _ rfl) (by decide +kernel) (pa_cons (pe_lc rfl sc_flow_table.nd (pi_seqK K rfl (pv 4)) (blkOk_by (own := [("line", 9)]) (by kernel_rfl)) (fun _ _ _ _ _ => (pg_name (i := 9) sc_flow_table.nd rfl (by first | exact Or.inl rfl | exact Or.inr rfl))) (fun _ _ _ _ _ => pts_nil) (fun _ _ _ _ _ => (pe_callTy (call_tupleK K rfl) (by rfl) (C.free 16 _ rfl) (by decide +kernel) (pa_cons (pv 9) pa_nil)))) pa_nil)))))))), ?_⟩
  · rintro _ _ ⟨Ns, r, rfl, ok, rfl⟩
    rfl
  · rintro _ _ ⟨Ns, r, rfl, ok, rfl⟩
    have few := ok.few
    have len : r.length ≤ 1000 := by have := ok.len; omega
    let ρ : Nat → List Sl := fun i => [.dat (rw_ r), .dat (pt Ns), .dat (pt Ns), .dat (.int 2), .dat (tl (act (tabE Ns) (r.take i) IT)), .any, .any, .any, .any, .any]
    have h0 : atI (Ns.map mt) 0 = some (mt (nm Ns 0)) := nm_get (by decide) ok.some_
    refine std_seq (ρ1 := [.dat (rw_ r), .dat (pt Ns), .dat (pt Ns), .any, .any, .any, .any, .any, .any, .any]) (std_asg (by walk_at "ev")) ?_
    refine std_seq (ρ1 := [.dat (rw_ r), .dat (pt Ns), .dat (pt Ns), .dat (.int 2), .any, .any, .any, .any, .any, .any]) (std_asg (EvD.is (evd_cb (evds_cons (evd_op (evd_var (i := 2) rfl) evd_int (ix_tupD h0)) evds_nil) len_T) rfl)) ?_
    have t1 : trim [1] = [1] := by decide +kernel
    have cell : ∀ (a b : Int) (ρ2 : List Sl), ρ2[7]? = some (.dat (.int a)) → ρ2[8]? = some (.dat (.int b)) → EvD T K (tIf (tTest (tOp (rEqD K) (tVar 7) (tVar 8))) (tCall (spF T K fTrim) [] E0 (tCons (tTup (tCons (tCst K (fr 1)) tNil)) tNil)) (tTup tNil)) ρ2 (pl (if a = b then [1] else [])) := fun a b ρ2 h1 h2 => by
      refine evd_if (x := decide (a = b)) (TeD.is (ted_test (evd_op (evd_var h1) (evd_var h2) (eq_D rfl rfl))) (eqv_int a b)) (fun h => ?_) fun h => ?_
      · rw [if_pos (of_decide_eq_true h)]
        refine EvD.is (evd_call (evds_cons (EvD.is (evd_tup (evds_cons evd_cst evds_nil) (Nat.le_of_ble_eq_true rfl)) (rfl : _ = pl [1])) evds_nil) (c_trim (by decide))) ?_
        rw [t1]
      · rw [if_neg (of_decide_eq_false h)]
        exact EvD.is (evd_tup evds_nil (Nat.zero_le _)) rfl
    have line : ∀ (a : Int) (ρ2 : List Sl), ρ2 = [.dat (rw_ r), .dat (pt Ns), .dat (pt Ns), .dat (.int 2), .any, .any, .any, .dat (.int a), .any, .any] → EvF T K (tLc (iRng1 (tCons (tVar 3) tNil)) (gName 8) tYes (tIf (tTest (tOp (rEqD K) (tVar 7) (tVar 8))) (tCall (spF T K fTrim) [] E0 (tCons (tTup (tCons (tCst K (fr 1)) tNil)) tNil)) (tTup tNil)) [8]) ρ2 [pl (if a = 0 then [1] else []), pl (if a = 1 then [1] else [])] := fun a ρ2 h => by
      subst h
      refine evf_lc (js := [8]) _ (itd_rng1 (n := 2) (evds_cons (evd_var (i := 3) rfl) evds_nil) (by decide) (by decide)) (by decide) rfl (Nat.le_of_ble_eq_true rfl) fun i d e hd he => ?_
      match i, hd, he with
      | 0, hd, he => cases hd; cases he; exact ⟨_, tgd_name, cell a 0 _ rfl rfl⟩
      | 1, hd, he => cases hd; cases he; exact ⟨_, tgd_name, cell a 1 _ rfl rfl⟩
      | _ + 2, hd, he => cases hd
    refine std_seq (ρ1 := ρ 0) (std_asg (d := tl IT) (evf_lc (js := [7]) [ll IT.1, ll IT.2] (itd_rng1 (n := 2) (evds_cons (evd_var (i := 3) rfl) evds_nil) (by decide) (by decide)) (by decide) rfl (Nat.le_of_ble_eq_true rfl) fun i d e hd he => ?_).ev) ?_
    · match i, hd, he with
      | 0, hd, he => cases hd; cases he; exact ⟨_, tgd_name, (line 0 _ rfl).ev⟩
      | 1, hd, he => cases hd; cases he; exact ⟨_, tgd_name, (line 1 _ rfl).ev⟩
      | _ + 2, hd, he => cases hd
    have fin : ρ (r.map pr).length = [.dat (rw_ r), .dat (pt Ns), .dat (pt Ns), .dat (.int 2), .dat (tl (act (tabE Ns) r IT)), .any, .any, .any, .any, .any] := by
      show [Sl.dat (rw_ r), .dat (pt Ns), .dat (pt Ns), .dat (.int 2), .dat (tl (act (tabE Ns) (r.take (r.map pr).length) IT)), .any, .any, .any, .any, .any] = _
      rw [(List.length_map), List.take_length]
    refine std_seq (ρ1 := ρ (r.map pr).length) (std_for (js := [5, 6]) ρ (itd_T (ds := r.map pr) (by walk_at "ev")) fun i d hd => ?_) ?_
    · rw [List.getElem?_map] at hd
      cases hr : r[i]? with
      | none => rw [hr] at hd; cases hd
      | some p =>
        rw [hr] at hd
        cases hd
        have hm := mem_get hr
        obtain ⟨p0, p1⟩ := ok.parts p hm
        have hi : i < r.length := (List.getElem?_eq_some_iff.mp hr).1
        have sv := ok.runs i (by omega)
        have hN : nm Ns p.1 ∈ Ns := by
          unfold nm
          rw [List.getD_eq_getElem?_getD, List.getElem?_eq_getElem p1]
          exact List.getElem_mem p1
        obtain ⟨n1, n2⟩ := ok.mats _ hN
        refine ⟨_, tgd_tup2 tgd_name tgd_name, ?_⟩
        refine std_weakN (ρ1 := [.dat (rw_ r), .dat (pt Ns), .dat (pt Ns), .dat (.int 2), .dat (tl (ledT (nm Ns p.1) p.2 (act (tabE Ns) (r.take i) IT))), .dat (.int p.1), .dat (fr p.2), .any, .any, .any]) (std_asg ?_) rfl ?_
        · exact evd_call (evds_cons (evd_op (evd_var (i := 2) rfl) (evd_var (i := 5) rfl) (ix_tupD (nm_get p0 p1))) (evds_cons (evd_var (i := 6) rfl) (evds_cons (evd_var (i := 4) rfl) evds_nil))) (c_led n1 n2 (ok.xs p hm) sv (tr_run Ns _ _ tr_IT))
        · intro j s hj
          have e : ρ (i + 1) = [.dat (rw_ r), .dat (pt Ns), .dat (pt Ns), .dat (.int 2), .dat (tl (ledT (nm Ns p.1) p.2 (act (tabE Ns) (r.take i) IT))), .any, .any, .any, .any, .any] := by
            show [Sl.dat (rw_ r), .dat (pt Ns), .dat (pt Ns), .dat (.int 2), .dat (tl (act (tabE Ns) (r.take (i + 1)) IT)), .any, .any, .any, .any, .any] = _
            rw [act_take hr]; rfl
          rw [e] at hj
          match j, hj with
          | 0, h => exact .inr h
          | 1, h => exact .inr h
          | 2, h => exact .inr h
          | 3, h => exact .inr h
          | 4, h => exact .inr h
          | 5, h => exact .inl (Option.some.inj h).symm
          | 6, h => exact .inl (Option.some.inj h).symm
          | 7, h => exact .inl (Option.some.inj h).symm
          | 8, h => exact .inl (Option.some.inj h).symm
          | 9, h => exact .inl (Option.some.inj h).symm
          | _ + 10, h => cases h
    · rw [fin]
      refine std_ret (evd_cb (evds_cons (evf_lc (js := [9]) [tt2 (act (tabE Ns) r IT).1, tt2 (act (tabE Ns) r IT).2] (itd_L (ds := [ll (act (tabE Ns) r IT).1, ll (act (tabE Ns) r IT).2]) (evd_var rfl)) (by decide) rfl (Nat.le_of_ble_eq_true rfl) fun i d e hd he => ?_).ev evds_nil) tuple_L)
      match i, hd, he with
      | 0, hd, he => cases hd; cases he; exact ⟨_, tgd_name, evd_cb (evds_cons (evd_var rfl) evds_nil) tuple_L⟩
      | 1, hd, he => cases hd; cases he; exact ⟨_, tgd_name, evd_cb (evds_cons (evd_var rfl) evds_nil) tuple_L⟩
      | _ + 2, hd, he => cases hd
theorem c_table {Ns : List Mx} {r : Row} (ok : TabOk Ns r) : fTable [rw_ r, pt Ns] (tft (act (tabE Ns) r IT)) := ⟨Ns, r, rfl, ok, rfl⟩
end
end K37
namespace K37
open PySem PySem.Spec L2
local macro_rules | `(tactic| walk_at "sz") => `(tactic| first | assumption | decide | omega)
local macro_rules | `(tactic| walk_at "call") => `(tactic| fail "no call")
local macro_rules | `(tactic| walk_at "cb") => `(tactic| first
  | with_reducible exact gcd_D | with_reducible exact len_T | with_reducible exact len_L | with_reducible exact tuple_L | with_reducible exact tuple_T | with_reducible exact max_D | with_reducible exact min_D | with_reducible exact abs_D
  | with_reducible exact int_D | with_reducible exact int_B)
local macro_rules | `(tactic| walk_at "op") => `(tactic| first
  | with_reducible exact minus_int | with_reducible exact plus_int | ((with_reducible apply times_int); walk_at "sz") | ((with_reducible apply ix_tupD); exact rfl) | ((with_reducible apply ix_lstD); exact rfl)
  | with_reducible exact lt_intD | with_reducible exact le_intD | with_reducible exact gt_intD | with_reducible exact ge_intD
  | ((with_reducible apply eq_D) <;> first | exact rfl | exact fr_shaped _ | assumption) | ((with_reducible apply ne_D) <;> first | exact rfl | exact fr_shaped _ | assumption)
  | ((with_reducible apply fdiv_int); walk_at "sz") | ((with_reducible apply fmod_int); walk_at "sz")
  | ((with_reducible apply plus_tup); walk_at "sz") | ((with_reducible apply plus_lst); walk_at "sz"))
local macro_rules | `(tactic| walk_at "evs") => `(tactic| first
  | with_reducible exact evds_nil
  | ((with_reducible apply evds_cons); (· walk_at "ev"); (· walk_at "evs")))
local macro_rules | `(tactic| walk_at "ev") => `(tactic| first
  | assumption
  | ((with_reducible apply evd_var); exact rfl)
  | with_reducible exact evd_int | with_reducible exact evd_cst | with_reducible exact evd_non | with_reducible exact evd_bl
  | ((with_reducible apply evd_op); (· walk_at "ev"); (· walk_at "ev"); (· walk_at "op"))
  | ((with_reducible apply evd_un); (· walk_at "ev"); (· with_reducible exact neg_intD))
  | ((with_reducible apply evd_call); (· walk_at "evs"); (· walk_at "call"))
  | ((with_reducible apply evd_cb); (· walk_at "evs"); (· walk_at "cb"))
  | ((with_reducible apply evd_tup); (· walk_at "evs"); (· exact Nat.le_of_ble_eq_true rfl))
  | ((with_reducible apply evd_isN); walk_at "ev") | ((with_reducible apply evd_notN); walk_at "ev")
  | ((with_reducible apply evd_not); walk_at "ev"))
local macro_rules | `(tactic| walk_at "te") => `(tactic| first
  | ((with_reducible apply ted_test); walk_at "ev") | ((with_reducible apply ted_B); walk_at "ev") | ((with_reducible apply ted_not); walk_at "te"))

/-! ### worths of words -/
def behGo (F : List Rat) (ls : List Int) (p : Int) (x : Rat) (at_ : Nat) : Nat → Rat → Rat → Rat
  | 0, _, total => total
  | h + 1, term, total => if ls.getD h 0 = p then behGo F ls p x at_ h (term * (x / (((at_ - h : Nat) : Int) : Rat))) (total + F.getD h 0 * (term * (x / (((at_ - h : Nat) : Int) : Rat)))) else total
def behL (F : List Rat) (ls : List Int) (p : Int) (x : Rat) : List Rat := (List.range F.length).map fun i => behGo F ls p x i i 1 (F.getD i 0)
def worL (ls : List Int) (F : List Rat) (p : Int × Rat) : List Rat := behL F ls p.1 p.2
def worth (r : Row) (ls : List Int) : List Rat := r.foldl (worL ls) (1 :: List.replicate ls.length 0)
/-- the sizes met -/
def BehS (F : List Rat) (ls : List Int) (p : Int) (x : Rat) (at_ : Nat) : Nat → Rat → Rat → Prop
  | 0, _, _ => True
  | h + 1, term, total => ls.getD h 0 = p → (Sm 4000 (x / (((at_ - h : Nat) : Int) : Rat)) ∧ Sm 4000 term ∧ Sm 4000 (term * (x / (((at_ - h : Nat) : Int) : Rat))) ∧ Sm 4000 (F.getD h 0) ∧ Sm 4000 (F.getD h 0 * (term * (x / (((at_ - h : Nat) : Int) : Rat)))) ∧ Sm 4000 total) ∧
      BehS F ls p x at_ h (term * (x / (((at_ - h : Nat) : Int) : Rat))) (total + F.getD h 0 * (term * (x / (((at_ - h : Nat) : Int) : Rat))))
structure BehOk (F : List Rat) (ls : List Int) (p : Int) (x : Rat) : Prop where
  len : F.length = ls.length + 1
  few : ls.length ≤ 100
  sx : Sm 4000 x
  sm : ∀ i, i ≤ ls.length → BehS F ls p x i i 1 (F.getD i 0)
def fBehind (ds : List PyData) (d : PyData) : Prop := ∃ (F : List Rat) (ls : List Int) (p : Int) (x : Rat), ds = [plL F, intsV ls, .int p, fr x] ∧ BehOk F ls p x ∧ d = plL (behL F ls p x)
def fWorth (ds : List PyData) (d : PyData) : Prop := ∃ (r : Row) (ls : List Int), ds = [rw_ r, intsV ls] ∧ r.length ≤ 500 ∧ ls.length ≤ 100 ∧ (∀ i p, r[i]? = some p → BehOk (worth (r.take i) ls) ls p.1 p.2) ∧ d = fr ((worth r ls).getD ls.length 0)
theorem ints_lay (xs : List Int) : okDs (xs.map PyData.int) = true := okDs_map PyData.int (fun x => rfl) xs
theorem c_tup_ints {xs : List Int} (h : xs.length ≤ 1000) : fTupleOf 7 [intsV xs] (intsV xs) := by
  refine ⟨_, rfl, ?_, ?_, ?_⟩
  · have := deps_map PyData.int (k := 0) (fun x => Nat.le_refl _) xs
    show deps (xs.map PyData.int) + 1 ≤ 7
    omega
  · show (decide ((xs.map PyData.int).length ≤ 10000) && okDs (xs.map PyData.int)) = true
    rw [ints_lay, List.length_map, decide_eq_true (by omega)]; rfl
  · show _ = PyData.tuple (tupDs (xs.map PyData.int))
    rw [tup_map PyData.int (fun x => rfl)]
theorem fr_at {F : List Rat} {i : Nat} (h : i < F.length) : (F.map fr)[i]? = some (fr (F.getD i 0)) := by
  rw [List.getElem?_map, List.getD_eq_getElem?_getD, List.getElem?_eq_getElem h]; rfl
theorem int_at {F : List Int} {i : Nat} (h : i < F.length) : (F.map PyData.int)[i]? = some (.int (F.getD i 0)) := by
  rw [List.getElem?_map, List.getD_eq_getElem?_getD, List.getElem?_eq_getElem h]; rfl
section
variable {P : Program} {w : World} {K : PySem.W.Frag} {mg : Str → Option Value} {base : Heap} {T : Tb}
theorem sc__behind : FnScope ["found", "letters", "part", "x", "fresh", "at", "total", "term", "here"] ["found", "letters", "part", "x"] (defScope (top 48)) := ⟨rfl, rfl, rfl, by decide +kernel, rfl, by decide +kernel, by decide +kernel⟩
theorem d_behind (C : CT P w K mg base T) : Df P w K mg base "_behind" 3 ["found", "letters", "part", "x"] (spF T K fBehind) := by
  refine df_of C (i := 31) (x := "_behind") (N := ["found", "letters", "part", "x", "fresh", "at", "total", "term", "here"]) (n := 5) rfl sc__behind (fun _ _ _ _ _ _ us hl => match us, hl with | [_, _, _, _], _ => rfl) ?_ rfl fun cdv A outer s H E fa hr => ⟨_, (pss_cons (ps_set (i := 4) sc__behind.nd rfl (by first | exact Or.inl rfl | exact Or.inr rfl) (pe_lst pa_nil))
  (pss_cons (ps_for PassesOwn.never rfl (pi_range1 (by rfl) (C.free 11 _ rfl) (pa_cons (pe_callB (call_lenK K rfl) (by rfl) (C.free 7 _ rfl) (by decide +kernel) (pa_cons (pv 0) pa_nil)) pa_nil)) (pg_name (i := 5) sc__behind.nd rfl (by first | exact Or.inl rfl | exact Or.inr rfl)) (pss_cons (ps_par3 (i := 6) (j := 7) (l := 8) rfl sc__behind.nd rfl rfl rfl (by decide) (by decide) (by decide) rfl rfl rfl (pa_cons (pe_ix (ix_seqK K rfl) (pv 0) (pv 5) (fun _ _ => rfl)) (pa_cons (pe_cstK K rfl (by rfl) (C.cst 5 _ rfl)) (pa_cons (pv 5) pa_nil))) (by first | rfl | kernel_rfl))
  (pss_cons (ps_while PassesOwn.never (PW.pt (pw_and (pt_cmpR op_gt (pv 8) pe_int (nomark _)) (pw_and1 (pt_cmpR (op_eqK K rfl hr.units) (pe_ix (ix_seqK K rfl) (pv 1) (pe_op op_sub (pv 8) pe_int) (fun _ _ => rfl)) (pv 2) (nomark _))))) (pss_cons (ps_aug (i := 8) sc__behind.nd rfl (by first | exact Or.inl rfl | exact Or.inr rfl) pe_int ip_sub)
  (pss_cons (ps_set (i := 7) sc__behind.nd rfl (by first | exact Or.inl rfl | exact Or.inr rfl) (pe_dfK (d_times C) rfl rfl rfl rfl rfl hr (by rfl) (pa_cons (pv 7) (pa_cons (pe_dfK (d_over C) rfl rfl rfl rfl rfl hr (by rfl) (pa_cons (pv 3) (pa_cons (pe_dfK (d_whole C) rfl rfl rfl rfl rfl hr (by rfl) (pa_cons (pe_op op_sub (pv 5) (pv 8)) pa_nil)) pa_nil))) pa_nil))))
  (pss_one (ps_set (i := 6) sc__behind.nd rfl (by first | exact Or.inl rfl | exact Or.inr rfl) (pe_dfK (d_plus C) rfl rfl rfl rfl rfl hr (by rfl) (pa_cons (pv 6) (pa_cons (pe_dfK (d_times C) rfl rfl rfl rfl rfl hr (by rfl) (pa_cons (pe_ix (ix_seqK K rfl) (pv 0) (pv 8) (fun _ _ => rfl)) (pa_cons (pv 7) pa_nil))) pa_nil))))))))
  (pss_one (ps_expr (pe_bmK K rfl PySem.F.plainAttrs_list PySem.F.slot_list_append PySem.F.type_list_append mt_append (pv 4) (pa_cons (pv 6) pa_nil)))))))
  (pss_one (ps_ret (pv 4))))), ?_⟩
  · rintro _ _ ⟨F, ls, p, x, rfl, ok, rfl⟩
    rfl
  · rintro _ _ ⟨F, ls, p, x, rfl, ok, rfl⟩
    have few := ok.few
    have len := ok.len
    have sx := ok.sx
    let ρ : List Rat → Nat → Rat → Rat → Nat → List Sl := fun acc i total term here => [.dat (plL F), .dat (intsV ls), .dat (.int p), .dat (fr x), .own (acc.map fr), .dat (.int (i : Nat)), .dat (fr total), .dat (fr term), .dat (.int (here : Nat))]
    have loop : ∀ (i : Nat), i ≤ ls.length → ∀ (acc : List Rat) (h : Nat) (term total : Rat), h ≤ i → BehS F ls p x i h term total →
        ∃ term' here', Wh T K (tAnd (tTest (tOp (rI0 fun i j => .bl (decide (j < i))) (tVar 8) (tC (.int 0)))) (tTest (tOp (rEqD K) (tOp (rIx K) (tVar 1) (tOp (rI0 fun i j => .int (i - j)) (tVar 8) (tC (.int 1)))) (tVar 2))))
          (tSeq (tAug 8 (tC (.int 1)) (ipI (· - ·))) (tSeq (tAsg (tCall (spF T K fTimes) [] E0 (tCons (tVar 7) (tCons (tCall (spF T K fOver) [] E0 (tCons (tVar 3) (tCons (tCall (spF T K fWhole) [] E0 (tCons (tOp (rI0 fun i j => .int (i - j)) (tVar 5) (tVar 8)) tNil)) tNil))) tNil))) (gName 7))
            (tAsg (tCall (spF T K fPlus) [] E0 (tCons (tVar 6) (tCons (tCall (spF T K fTimes) [] E0 (tCons (tOp (rIx K) (tVar 0) (tVar 8)) (tCons (tVar 7) tNil))) tNil))) (gName 6)))) (ρ acc i total term h) (ρ acc i (behGo F ls p x i h term total) term' here') := fun i hi acc h => by
      induction h with
      | zero =>
        intro term total _ _
        refine ⟨term, 0, .stop (TeD.is (x := decide ((0 : Int) < ((0 : Nat) : Int)) && true) (ted_and (ted_test (evd_op (evd_var rfl) evd_int gt_intD)) fun h => absurd h (by decide)) rfl)⟩
      | succ h ih =>
        intro term total hh hs
        have t1 : TeD T K (tTest (tOp (rI0 fun i j => .bl (decide (j < i))) (tVar 8) (tC (.int 0)))) (ρ acc i total term (h + 1)) true := TeD.is (ted_test (evd_op (evd_var rfl) evd_int gt_intD)) (decide_eq_true (by omega))
        have e8 : ((h + 1 : Nat) : Int) - 1 = ((h : Nat) : Int) := by omega
        have eat : EvD T K (tOp (rIx K) (tVar 1) (tOp (rI0 fun i j => .int (i - j)) (tVar 8) (tC (.int 1)))) (ρ acc i total term (h + 1)) (.int (ls.getD h 0)) :=
          evd_op (evd_var (i := 1) rfl) (EvD.is (evd_op (evd_var (i := 8) rfl) evd_int minus_int) (by rw [e8])) (ix_tupD (at_nat (int_at (by omega))))
        have t2 : TeD T K (tTest (tOp (rEqD K) (tOp (rIx K) (tVar 1) (tOp (rI0 fun i j => .int (i - j)) (tVar 8) (tC (.int 1)))) (tVar 2))) (ρ acc i total term (h + 1)) (decide (ls.getD h 0 = p)) := TeD.is (ted_test (evd_op eat (evd_var (i := 2) rfl) (eq_D rfl rfl))) (eqv_int _ _)
        by_cases hp : ls.getD h 0 = p
        · obtain ⟨⟨s1, s2, s3, s4, s5, s6⟩, more⟩ := hs hp
          obtain ⟨term', here', W⟩ := ih _ _ (by omega) more
          have eg : behGo F ls p x i (h + 1) term total = behGo F ls p x i h (term * (x / (((i - h : Nat) : Int) : Rat))) (total + F.getD h 0 * (term * (x / (((i - h : Nat) : Int) : Rat)))) := if_pos hp
          rw [eg]
          refine ⟨term', here', .more (TeD.is (ted_and t1 fun _ => t2) (by rw [decide_eq_true hp]; rfl)) ?_ W⟩
          have ed : ((i : Nat) : Int) - ((h : Nat) : Int) = ((i - h : Nat) : Int) := by omega
          have h0 : (((i - h : Nat) : Int) : Rat) ≠ 0 := fun z => by
            have : ((i - h : Nat) : Int) = 0 := Rat.intCast_inj.mp z
            omega
          have sk : Sm 4000 (((i - h : Nat) : Int) : Rat) := (Bq.int ((i - h : Nat) : Int)).sm (n := 4000) (by decide) (p4000 (by decide)) (p4000 (by simp; omega))
          refine std_seq (ρ1 := ρ acc i total term h) ?_ ?_
          · have := std_aug (T := T) (K := K) (ρ := ρ acc i total term (h + 1)) (i := 8) (f := (· - ·)) (te := tC (.int 1)) rfl evd_int
            rw [e8] at this
            exact this
          refine std_seq (ρ1 := ρ acc i total (term * (x / (((i - h : Nat) : Int) : Rat))) h) (std_asg (evd_call (evds_cons (evd_var (i := 7) rfl) (evds_cons (evd_call (evds_cons (evd_var (i := 3) rfl) (evds_cons (evd_call (evds_cons (EvD.is (evd_op (evd_var (i := 5) rfl) (evd_var (i := 8) rfl) minus_int) (by rw [ed])) evds_nil) c_whole) evds_nil)) (c_over sx sk h0)) evds_nil)) (c_times s2 s1))) ?_
          exact std_asg (evd_call (evds_cons (evd_var (i := 6) rfl) (evds_cons (evd_call (evds_cons (evd_op (evd_var (i := 0) rfl) (evd_var (i := 8) rfl) (ix_lstD (at_nat (fr_at (by omega))))) (evds_cons (evd_var (i := 7) rfl) evds_nil)) (c_times s4 s3)) evds_nil)) (c_plus s6 s5))
        · have eg : behGo F ls p x i (h + 1) term total = total := if_neg hp
          rw [eg]
          exact ⟨term, h + 1, .stop (TeD.is (ted_and t1 fun _ => t2) (by rw [decide_eq_false hp]; rfl))⟩
    let σs : Nat → List Sl := fun i => [.dat (plL F), .dat (intsV ls), .dat (.int p), .dat (fr x), .own (((behL F ls p x).take i).map fr), .any, .any, .any, .any]
    refine std_seq (ρ1 := σs 0) (std_asgF (i := 4) (ds := []) (evf_lst evds_nil (Nat.zero_le _))) ?_
    have ln : ((F.map fr).length : Int) = (F.length : Int) := by simp
    have fin : σs (rngD 0 (F.length : Int).toNat).length = [.dat (plL F), .dat (intsV ls), .dat (.int p), .dat (fr x), .own ((behL F ls p x).map fr), .any, .any, .any, .any] := by
      show [Sl.dat (plL F), .dat (intsV ls), .dat (.int p), .dat (fr x), .own (((behL F ls p x).take (rngD 0 (F.length : Int).toNat).length).map fr), .any, .any, .any, .any] = _
      have : (rngD 0 (F.length : Int).toNat).length = (behL F ls p x).length := by rw [rngD_len]; simp [behL]
      rw [this, List.take_length]
    refine std_seq (ρ1 := σs (rngD 0 (F.length : Int).toNat).length) (std_for (js := [5]) σs (itd_rng1 (n := (F.length : Int)) (evds_cons (EvD.is (evd_cb (evds_cons (evd_var (i := 0) rfl) evds_nil) len_L) (by rw [ln])) evds_nil) (by omega) (by omega)) fun i d hd => ?_) (by rw [fin]; exact std_share (i := 4) rfl (std_ret (evd_var (i := 4) rfl)))
    obtain ⟨hi, rfl⟩ := rngD_get hd
    have hi2 : i < F.length := by omega
    have e0 : (0 : Int) + ((i : Nat) : Int) = ((i : Nat) : Int) := by omega
    rw [e0]
    refine ⟨_, tgd_name, ?_⟩
    obtain ⟨term', here', W⟩ := loop i (by omega) ((behL F ls p x).take i) i 1 (F.getD i 0) (Nat.le_refl _) (ok.sm i (by omega))
    refine std_seq (ρ1 := ρ ((behL F ls p x).take i) i (F.getD i 0) 1 i) (std_par3 (d1 := fr (F.getD i 0)) (d2 := fr 1) (d3 := .int ((i : Nat) : Int)) (evds_cons (evd_op (evd_var (i := 0) rfl) (evd_var (i := 5) rfl) (ix_lstD (at_nat (fr_at hi2)))) (evds_cons evd_cst (evds_cons (evd_var (i := 5) rfl) evds_nil)))) ?_
    refine std_seq (std_wh W) ?_
    have en : (behL F ls p x).take (i + 1) = (behL F ls p x).take i ++ [behGo F ls p x i i 1 (F.getD i 0)] := by
      rw [List.take_add_one]
      have : (behL F ls p x)[i]? = some (behGo F ls p x i i 1 (F.getD i 0)) := by
        unfold behL
        rw [List.getElem?_map, List.getElem?_range hi2]; rfl
      rw [this]; rfl
    refine std_weakN (std_app (i := 4) rfl (evd_var (i := 6) rfl) (by simp; omega)) rfl ?_
    have ee : σs (i + 1) = [.dat (plL F), .dat (intsV ls), .dat (.int p), .dat (fr x), .own (((behL F ls p x).take i).map fr ++ [fr (behGo F ls p x i i 1 (F.getD i 0))]), .any, .any, .any, .any] := by
      show [Sl.dat (plL F), .dat (intsV ls), .dat (.int p), .dat (fr x), .own (((behL F ls p x).take (i + 1)).map fr), .any, .any, .any, .any] = _
      rw [en, List.map_append]; rfl
    intro j s hj
    rw [ee] at hj
    match j, hj with
    | 0, h => exact .inr h
    | 1, h => exact .inr h
    | 2, h => exact .inr h
    | 3, h => exact .inr h
    | 4, h => exact .inr h
    | 5, h => exact .inl (Option.some.inj h).symm
    | 6, h => exact .inl (Option.some.inj h).symm
    | 7, h => exact .inl (Option.some.inj h).symm
    | 8, h => exact .inl (Option.some.inj h).symm
    | _ + 9, h => cases h
theorem c_behind {F : List Rat} {ls : List Int} {p : Int} {x : Rat} (ok : BehOk F ls p x) : fBehind [plL F, intsV ls, .int p, fr x] (plL (behL F ls p x)) := ⟨F, ls, p, x, rfl, ok, rfl⟩
theorem beh_len (F : List Rat) (ls : List Int) (p : Int) (x : Rat) : (behL F ls p x).length = F.length := by simp [behL]
theorem worth_len (r : Row) (ls : List Int) : (worth r ls).length = ls.length + 1 := by
  have : ∀ (r : Row) (F : List Rat), (r.foldl (worL ls) F).length = F.length := fun r => by
    induction r with
    | nil => intro F; rfl
    | cons p r ih => intro F; rw [List.foldl_cons, ih]; exact beh_len _ _ _ _
  unfold worth
  rw [this]; simp
theorem worth_snoc {r : Row} {ls : List Int} {i : Nat} {p : Int × Rat} (h : r[i]? = some p) : worth (r.take (i + 1)) ls = behL (worth (r.take i) ls) ls p.1 p.2 := by
  unfold worth
  rw [List.take_add_one, h, List.foldl_append]; rfl
local macro_rules | `(tactic| walk_at "call") => `(tactic| ((with_reducible apply c_tuple_of_row); walk_at "sz"))
local macro_rules | `(tactic| walk_at "call") => `(tactic| ((with_reducible apply c_tup_ints); walk_at "sz"))
theorem sc_word_worth : FnScope ["row", "word", "letters", "found", "part", "x"] ["row", "word"] (defScope (top 49)) := ⟨rfl, rfl, rfl, by decide +kernel, rfl, by decide +kernel, by decide +kernel⟩
theorem d_word_worth (C : CT P w K mg base T) : Df P w K mg base "word_worth" 9 ["row", "word"] (spF T K fWorth) := by
  refine df_of C (i := 32) (x := "word_worth") (N := ["row", "word", "letters", "found", "part", "x"]) (n := 4) rfl sc_word_worth (fun _ _ _ _ _ _ us hl => match us, hl with | [_, _], _ => rfl) ?_ rfl fun cdv A outer s H E fa hr => ⟨_, (pss_cons (ps_set (i := 2) sc_word_worth.nd rfl (by first | exact Or.inl rfl | exact Or.inr rfl) (pe_dfK (d_tuple_of C) rfl rfl rfl rfl rfl hr (by rfl) (pa_cons (pv 1) pa_nil)))
  (pss_cons (ps_set (i := 3) sc_word_worth.nd rfl (by first | exact Or.inl rfl | exact Or.inr rfl) (pe_op (op_plusK K rfl) (pe_lst (pa_cons (pe_cstK K rfl (by rfl) (C.cst 5 _ rfl)) pa_nil)) (pe_op (op_timesK K rfl) (pe_lst (pa_cons (pe_cstK K rfl (by rfl) (C.cst 3 _ rfl)) pa_nil)) (pe_callB (call_lenK K rfl) (by rfl) (C.free 7 _ rfl) (by decide +kernel) (pa_cons (pv 2) pa_nil)))))
  (pss_cons (ps_for PassesOwn.never rfl (pi_seqK K rfl (pe_dfK (d_tuple_of C) rfl rfl rfl rfl rfl hr (by rfl) (pa_cons (pv 0) pa_nil))) (pg_tupK K rfl (n := 2) rfl (pgs_cons (pg_name (i := 4) sc_word_worth.nd rfl (by first | exact Or.inl rfl | exact Or.inr rfl)) (pgs_cons (pg_name (i := 5) sc_word_worth.nd rfl (by first | exact Or.inl rfl | exact Or.inr rfl)) pgs_nil))) (pss_one (ps_set (i := 3) sc_word_worth.nd rfl (by first | exact Or.inl rfl | exact Or.inr rfl) (pe_dfK (d_behind C) rfl rfl rfl rfl rfl hr (by rfl) (pa_cons (pv 3) (pa_cons (pv 2) (pa_cons (pv 4) (pa_cons (pv 5) pa_nil))))))))
  (pss_one (ps_ret (pe_ix (ix_seqK K rfl) (pv 3) (pe_un un_neg pe_int) (fun _ _ => rfl))))))), ?_⟩
  · rintro _ _ ⟨r, ls, rfl, hr, hl, ok, rfl⟩
    rfl
  · rintro _ _ ⟨r, ls, rfl, hr, hl, ok, rfl⟩
    have hr2 : r.length ≤ 1000 := by omega
    have hl2 : ls.length ≤ 1000 := by omega
    let ρ : Nat → List Sl := fun i => [.dat (rw_ r), .dat (intsV ls), .dat (intsV ls), .dat (plL (worth (r.take i) ls)), .any, .any]
    refine std_seq (ρ1 := [.dat (rw_ r), .dat (intsV ls), .dat (intsV ls), .any, .any, .any]) (std_asg (by walk_at "ev")) ?_
    have start : EvD T K (tOp (rPlus K) (tLst (tCons (tCst K (fr 1)) tNil)) (tOp (rTimes K) (tLst (tCons (tCst K (fr 0)) tNil)) (tCB (rLenS K) (tCons (tVar 2) tNil)))) [.dat (rw_ r), .dat (intsV ls), .dat (intsV ls), .any, .any, .any] (plL (worth (r.take 0) ls)) := by
      refine EvD.is (evd_op (evf_lst (evds_cons evd_cst evds_nil) (Nat.le_of_ble_eq_true rfl)).ev (evd_op (evf_lst (evds_cons evd_cst evds_nil) (Nat.le_of_ble_eq_true rfl)).ev (evd_cb (evds_cons (evd_var (i := 2) rfl) evds_nil) len_T) (OpF.ev (times_lstF (k := ((ls.map PyData.int).length : Int)) (by omega) (by simp; omega) (by decide)))) (plus_lst (by simp; omega))) ?_
      show PyData.list _ = PyData.list _
      congr 1
      simp [worth]
    refine std_seq (ρ1 := ρ 0) (std_asg start) ?_
    have fin : ρ (r.map pr).length = [.dat (rw_ r), .dat (intsV ls), .dat (intsV ls), .dat (plL (worth r ls)), .any, .any] := by
      show [Sl.dat (rw_ r), .dat (intsV ls), .dat (intsV ls), .dat (plL (worth (r.take (r.map pr).length) ls)), .any, .any] = _
      rw [(List.length_map), List.take_length]
    refine std_seq (ρ1 := ρ (r.map pr).length) (std_for (js := [4, 5]) ρ (itd_T (ds := r.map pr) (by walk_at "ev")) fun i d hd => ?_) ?_
    · rw [List.getElem?_map] at hd
      cases hp : r[i]? with
      | none => rw [hp] at hd; cases hd
      | some p =>
        rw [hp] at hd
        cases hd
        refine ⟨_, tgd_tup2 tgd_name tgd_name, ?_⟩
        refine std_weakN (ρ1 := [.dat (rw_ r), .dat (intsV ls), .dat (intsV ls), .dat (plL (behL (worth (r.take i) ls) ls p.1 p.2)), .dat (.int p.1), .dat (fr p.2)]) (std_asg (evd_call (by walk_at "evs") (c_behind (ok i p hp)))) rfl ?_
        have e : ρ (i + 1) = [.dat (rw_ r), .dat (intsV ls), .dat (intsV ls), .dat (plL (behL (worth (r.take i) ls) ls p.1 p.2)), .any, .any] := by
          show [Sl.dat (rw_ r), .dat (intsV ls), .dat (intsV ls), .dat (plL (worth (r.take (i + 1)) ls)), .any, .any] = _
          rw [worth_snoc hp]
        intro j s hj
        rw [e] at hj
        match j, hj with
        | 0, h => exact .inr h
        | 1, h => exact .inr h
        | 2, h => exact .inr h
        | 3, h => exact .inr h
        | 4, h => exact .inl (Option.some.inj h).symm
        | 5, h => exact .inl (Option.some.inj h).symm
        | _ + 6, h => cases h
    · rw [fin]
      have wl := worth_len r ls
      have hlast : ((worth r ls).map fr).getLast? = some (fr ((worth r ls).getD ls.length 0)) := by
        rw [List.getLast?_eq_getElem?, List.length_map, wl]
        exact fr_at (by omega)
      exact std_ret (evd_op (evd_var rfl) (evd_un evd_int neg_intD) (ix_lstD (at_last hlast)))
theorem c_worth {r : Row} {ls : List Int} (h1 : r.length ≤ 500) (h2 : ls.length ≤ 100) (h3 : ∀ i p, r[i]? = some p → BehOk (worth (r.take i) ls) ls p.1 p.2) : fWorth [rw_ r, intsV ls] (fr ((worth r ls).getD ls.length 0)) := ⟨r, ls, rfl, h1, h2, h3, rfl⟩
end
end K37
namespace K37
open PySem PySem.Spec L2
local macro_rules | `(tactic| walk_at "sz") => `(tactic| first | assumption | decide | omega)
local macro_rules | `(tactic| walk_at "call") => `(tactic| fail "no call")
local macro_rules | `(tactic| walk_at "cb") => `(tactic| first
  | with_reducible exact gcd_D | with_reducible exact len_T | with_reducible exact len_L | with_reducible exact tuple_L | with_reducible exact tuple_T | with_reducible exact max_D | with_reducible exact min_D | with_reducible exact abs_D
  | with_reducible exact int_D | with_reducible exact int_B)
local macro_rules | `(tactic| walk_at "op") => `(tactic| first
  | with_reducible exact minus_int | with_reducible exact plus_int | ((with_reducible apply times_int); walk_at "sz") | ((with_reducible apply ix_tupD); exact rfl) | ((with_reducible apply ix_lstD); exact rfl)
  | with_reducible exact lt_intD | with_reducible exact le_intD | with_reducible exact gt_intD | with_reducible exact ge_intD
  | ((with_reducible apply eq_D) <;> first | exact rfl | exact fr_shaped _ | assumption) | ((with_reducible apply ne_D) <;> first | exact rfl | exact fr_shaped _ | assumption)
  | ((with_reducible apply fdiv_int); walk_at "sz") | ((with_reducible apply fmod_int); walk_at "sz")
  | ((with_reducible apply plus_tup); walk_at "sz") | ((with_reducible apply plus_lst); walk_at "sz"))
local macro_rules | `(tactic| walk_at "evs") => `(tactic| first
  | with_reducible exact evds_nil
  | ((with_reducible apply evds_cons); (· walk_at "ev"); (· walk_at "evs")))
local macro_rules | `(tactic| walk_at "ev") => `(tactic| first
  | assumption
  | ((with_reducible apply evd_var); exact rfl)
  | with_reducible exact evd_int | with_reducible exact evd_cst | with_reducible exact evd_non | with_reducible exact evd_bl
  | ((with_reducible apply evd_op); (· walk_at "ev"); (· walk_at "ev"); (· walk_at "op"))
  | ((with_reducible apply evd_un); (· walk_at "ev"); (· with_reducible exact neg_intD))
  | ((with_reducible apply evd_call); (· walk_at "evs"); (· walk_at "call"))
  | ((with_reducible apply evd_cb); (· walk_at "evs"); (· walk_at "cb"))
  | ((with_reducible apply evd_tup); (· walk_at "evs"); (· exact Nat.le_of_ble_eq_true rfl))
  | ((with_reducible apply evd_isN); walk_at "ev") | ((with_reducible apply evd_notN); walk_at "ev")
  | ((with_reducible apply evd_not); walk_at "ev"))
local macro_rules | `(tactic| walk_at "te") => `(tactic| first
  | ((with_reducible apply ted_test); walk_at "ev") | ((with_reducible apply ted_B); walk_at "ev") | ((with_reducible apply ted_not); walk_at "te"))

/-! ### runs that part two rows -/
def e1 : Vc := (1, 0)
def e2 : Vc := (0, 1)
def runW (Ns : List Mx) (h : Rat) (r s : Row) : Option Vc := if act (flowE Ns h) r e1 ≠ act (flowE Ns h) s e1 then some e1 else if act (flowE Ns h) r e2 ≠ act (flowE Ns h) s e2 then some e2 else none
def runD (Ns : List Mx) (h : Rat) : Option Vc → PyData
  | none => .none
  | some e => .tuple [pt Ns, vt e, fr h]
structure RunOk (Ns : List Mx) (h : Rat) (r s : Row) : Prop where
  r1 : FlowOk Ns h r e1
  r2 : FlowOk Ns h r e2
  s1 : FlowOk Ns h s e1
  s2 : FlowOk Ns h s e2
def fRunWith (ds : List PyData) (d : PyData) : Prop := ∃ (Ns : List Mx) (h : Rat) (r s : Row), ds = [rw_ r, rw_ s, pt Ns, fr h] ∧ RunOk Ns h r s ∧ d = runD Ns h (runW Ns h r s)
theorem vt_eqv (a b : Vc) : PyData.eqv (vt a) (vt b) = decide (a = b) := by
  show (PyData.eqv (fr a.1) (fr b.1) && (PyData.eqv (fr a.2) (fr b.2) && true)) = _
  rw [fr_eqv, fr_eqv, Bool.and_true, ← Bool.decide_and]
  exact decide_eq_decide.mpr ⟨fun h => Prod.ext h.1 h.2, fun h => by rw [h]; exact ⟨rfl, rfl⟩⟩
theorem vt_shaped (v : Vc) : SeqAt.shaped (vt v) = true := by
  simp [SeqAt.shaped, vt, fr, PyData.canLay0, PyData.canLayAll0, PyData.depth, PyData.depthAll]
def RunFor (r s : Row) (d : PyData) : Prop :=
  (restR r s = [] ∧ d = .none) ∨
  (restR r s ≠ [] ∧ ∃ m : Int, (partsI (r ++ s)).getLast? = some m ∧ m < 2 ∧ RunOk spr (stepQ (restR r s)) r s ∧ d = runD spr (stepQ (restR r s)) (runW spr (stepQ (restR r s)) r s)) ∨
  (restR r s ≠ [] ∧ ∃ m : Nat, (partsI (r ++ s)).getLast? = some (m : Int) ∧ 2 ≤ m ∧ m ≤ 8 ∧ ∃ (n : Nat) (e : Vc), 1 ≤ n ∧ n ≤ 1000 ∧ (∀ i : Nat, 1 ≤ i → i ≤ n → RunOk (cells (m + 1)) ((i : Int) : Rat) r s) ∧ (∀ i : Nat, 1 ≤ i → i < n → runW (cells (m + 1)) ((i : Int) : Rat) r s = none) ∧ runW (cells (m + 1)) ((n : Int) : Rat) r s = some e ∧ d = runD (cells (m + 1)) ((n : Int) : Rat) (some e))
def fRun (ds : List PyData) (d : PyData) : Prop := ∃ (r s : Row) (N : Nat), ds = [rw_ r, rw_ s] ∧ RowQ N r ∧ RowQ N s ∧ r.length + s.length < 60 ∧ N * 60 < 2 ^ 64 ∧ RunFor r s d
section
variable {P : Program} {w : World} {K : PySem.W.Frag} {mg : Str → Option Value} {base : Heap} {T : Tb}
theorem sc__run_with : FnScope ["row", "other", "push", "h", "state"] ["row", "other", "push", "h"] (defScope (top 65)) := ⟨rfl, rfl, rfl, by decide +kernel, rfl, by decide +kernel, by decide +kernel⟩
theorem d_run_with (C : CT P w K mg base T) : Df P w K mg base "_run_with" 10 ["row", "other", "push", "h"] (spF T K fRunWith) := by
  refine df_of C (i := 48) (x := "_run_with") (N := ["row", "other", "push", "h", "state"]) (n := 1) rfl sc__run_with (fun _ _ _ _ _ _ us hl => match us, hl with | [_, _, _, _], _ => rfl) ?_ rfl fun cdv A outer s H E fa hr => ⟨_, (pss_cons (ps_for PassesOwn.never rfl (pi_seqK K rfl (pe_cstK K rfl (by rfl) (C.cst 7 _ rfl))) (pg_name (i := 4) sc__run_with.nd rfl (by first | exact Or.inl rfl | exact Or.inr rfl)) (pss_one (ps_if (pt_cmpR (op_neK K rfl hr.units) (pe_dfK (d_flow_at C) rfl rfl rfl rfl rfl hr (by rfl) (pa_cons (pv 0) (pa_cons (pv 2) (pa_cons (pv 3) (pa_cons (pv 4) pa_nil))))) (pe_dfK (d_flow_at C) rfl rfl rfl rfl rfl hr (by rfl) (pa_cons (pv 1) (pa_cons (pv 2) (pa_cons (pv 3) (pa_cons (pv 4) pa_nil))))) (nomark _)) (pss_one (ps_ret (pe_tup (pa_cons (pv 2) (pa_cons (pv 4) (pa_cons (pv 3) pa_nil)))))) pss_nil)))
  (pss_one (ps_ret pe_non))), ?_⟩
  · rintro _ _ ⟨Ns, h, r, s, rfl, ok, rfl⟩
    rfl
  · rintro _ _ ⟨Ns, h, r, s, rfl, ok, rfl⟩
    let ρ : List Sl := [.dat (rw_ r), .dat (rw_ s), .dat (pt Ns), .dat (fr h), .any]
    let o : Nat → Option PyData := fun i => if i = 0 then (if act (flowE Ns h) r e1 ≠ act (flowE Ns h) s e1 then some (.tuple [pt Ns, vt e1, fr h]) else none) else (if act (flowE Ns h) r e2 ≠ act (flowE Ns h) s e2 then some (.tuple [pt Ns, vt e2, fr h]) else none)
    have one : ∀ (e : Vc), FlowOk Ns h r e → FlowOk Ns h s e → StD T K _ [.dat (rw_ r), .dat (rw_ s), .dat (pt Ns), .dat (fr h), .dat (vt e)] (outO ρ (if act (flowE Ns h) r e ≠ act (flowE Ns h) s e then some (.tuple [pt Ns, vt e, fr h]) else none)) := fun e hr hs => by
      have te : TeD T K (tTest (tOp (rNeD K) (tCall (spF T K fFlowAt) [] E0 (tCons (tVar 0) (tCons (tVar 2) (tCons (tVar 3) (tCons (tVar 4) tNil))))) (tCall (spF T K fFlowAt) [] E0 (tCons (tVar 1) (tCons (tVar 2) (tCons (tVar 3) (tCons (tVar 4) tNil))))))) [.dat (rw_ r), .dat (rw_ s), .dat (pt Ns), .dat (fr h), .dat (vt e)] (decide (act (flowE Ns h) r e ≠ act (flowE Ns h) s e)) :=
        TeD.is (ted_test (evd_op (evd_call (by walk_at "evs") (c_flow_at hr)) (evd_call (by walk_at "evs") (c_flow_at hs)) (ne_D (vt_shaped _) (vt_shaped _)))) (by rw [vt_eqv]; simp)
      by_cases c : act (flowE Ns h) r e ≠ act (flowE Ns h) s e
      · rw [if_pos c]
        exact std_if (u := tNext) (TeD.is te (decide_eq_true c)) (fun _ => std_ret (evd_tup (evds_cons (evd_var (i := 2) rfl) (evds_cons (evd_var (i := 4) rfl) (evds_cons (evd_var (i := 3) rfl) evds_nil))) (Nat.le_of_ble_eq_true rfl))) fun h => by cases h
      · rw [if_neg c]
        refine std_weakN (ρ1 := [.dat (rw_ r), .dat (rw_ s), .dat (pt Ns), .dat (fr h), .dat (vt e)]) (std_if (TeD.is te (decide_eq_false c)) (fun h => by cases h) fun _ => std_next) rfl ?_
        intro j s hj
        match j, hj with
        | 0, h => exact .inr h
        | 1, h => exact .inr h
        | 2, h => exact .inr h
        | 3, h => exact .inr h
        | 4, h => exact .inl (Option.some.inj h).symm
        | _ + 5, h => cases h
    refine std_seqO (std_forO (ρ := ρ) (ds := [vt e1, vt e2]) (js := [4]) o (itd_T (EvD.is evd_cst rfl)) fun i d hd => ?_) (fun hn => ?_) fun x hx => ?_
    rotate_left
    · have e : runW Ns h r s = none := by
        unfold runW
        by_cases c1 : act (flowE Ns h) r e1 ≠ act (flowE Ns h) s e1
        · simp [o, c1, List.range, List.range.loop, List.findSome?] at hn
        · rw [if_neg c1]
          by_cases c2 : act (flowE Ns h) r e2 ≠ act (flowE Ns h) s e2
          · simp [o, c1, c2, List.range, List.range.loop, List.findSome?] at hn
          · rw [if_neg c2]
      rw [e]
      exact std_ret evd_non
    · unfold runW
      by_cases c1 : act (flowE Ns h) r e1 ≠ act (flowE Ns h) s e1
      · rw [if_pos c1]
        simp [o, c1, List.range, List.range.loop, List.findSome?] at hx
        exact hx.symm
      · rw [if_neg c1]
        by_cases c2 : act (flowE Ns h) r e2 ≠ act (flowE Ns h) s e2
        · rw [if_pos c2]
          simp [o, c1, c2, List.range, List.range.loop, List.findSome?] at hx
          exact hx.symm
        · simp [o, c1, c2, List.range, List.range.loop, List.findSome?] at hx
    · match i, hd with
      | 0, hd => cases hd; exact ⟨_, tgd_name, one e1 ok.r1 ok.s1⟩
      | 1, hd => cases hd; exact ⟨_, tgd_name, one e2 ok.r2 ok.s2⟩
      | _ + 2, hd => cases hd
theorem c_run_with {Ns : List Mx} {h : Rat} {r s : Row} (ok : RunOk Ns h r s) : fRunWith [rw_ r, rw_ s, pt Ns, fr h] (runD Ns h (runW Ns h r s)) := ⟨Ns, h, r, s, rfl, ok, rfl⟩
theorem c_step {r s : Row} {N : Nat} (h1 : RowQ N r) (h2 : RowQ N s) (h3 : r.length + s.length ≤ 60) (h4 : N * 60 < 2 ^ 64) : fStep [rw_ r, rw_ s] (fr (stepQ (restR r s))) := ⟨r, s, N, rfl, h1, h2, h3, h4, rfl⟩
theorem c_spring : fSpring [] (pt spr) := ⟨rfl, rfl⟩
theorem c_cell {m : Nat} (h : m ≤ 9) : fCell [.int m] (pt (cells m)) := ⟨m, rfl, h, rfl⟩
theorem sc_parting_run : FnScope ["row", "other", "parts", "push", "number", "found"] ["row", "other"] (defScope (top 66)) := ⟨rfl, rfl, rfl, by decide +kernel, rfl, by decide +kernel, by decide +kernel⟩
theorem d_parting_run (C : CT P w K mg base T) : Df P w K mg base "parting_run" 13 ["row", "other"] (spF T K fRun) := by
  refine df_of C (i := 49) (x := "parting_run") (N := ["row", "other", "parts", "push", "number", "found"]) (n := 4) rfl sc_parting_run (fun _ _ _ _ _ _ us hl => match us, hl with | [_, _], _ => rfl) ?_ rfl fun cdv A outer s H E fa hr => ⟨_, (pss_cons (ps_set (i := 2) sc_parting_run.nd rfl (by first | exact Or.inl rfl | exact Or.inr rfl) (pe_dfK (d_parts_in C) rfl rfl rfl rfl rfl hr (by rfl) (pa_cons (pe_op (op_plusK K rfl) (pe_dfK (d_tuple_of C) rfl rfl rfl rfl rfl hr (by rfl) (pa_cons (pv 0) pa_nil)) (pe_dfK (d_tuple_of C) rfl rfl rfl rfl rfl hr (by rfl) (pa_cons (pv 1) pa_nil))) pa_nil)))
  (pss_cons (ps_if (pt_cmpR (op_eqK K rfl hr.units) (pe_dfK (d_rest_of C) rfl rfl rfl rfl rfl hr (by rfl) (pa_cons (pv 0) (pa_cons (pv 1) pa_nil))) (pe_tup pa_nil) (nomark _)) (pss_one (ps_ret pe_non)) pss_nil)
  (pss_cons (ps_if (pt_cmpR op_lt (pe_ix (ix_seqK K rfl) (pv 2) (pe_un un_neg pe_int) (fun _ _ => rfl)) pe_int (nomark _)) (pss_one (ps_ret (pe_dfK (d_run_with C) rfl rfl rfl rfl rfl hr (by rfl) (pa_cons (pv 0) (pa_cons (pv 1) (pa_cons (pe_dfK0 (d_spring_push C) rfl rfl rfl rfl rfl hr (by rfl)) (pa_cons (pe_dfK (d_one_step C) rfl rfl rfl rfl rfl hr (by rfl) (pa_cons (pv 0) (pa_cons (pv 1) pa_nil))) pa_nil))))))) pss_nil)
  (pss_cons (ps_par3 (i := 3) (j := 4) (l := 5) rfl sc_parting_run.nd rfl rfl rfl (by decide) (by decide) (by decide) rfl rfl rfl (pa_cons (pe_dfK (d_cell_push C) rfl rfl rfl rfl rfl hr (by rfl) (pa_cons (pe_op (op_plusK K rfl) (pe_ix (ix_seqK K rfl) (pv 2) (pe_un un_neg pe_int) (fun _ _ => rfl)) pe_int) pa_nil)) (pa_cons pe_int (pa_cons pe_non pa_nil))) (by first | rfl | kernel_rfl))
  (pss_cons (ps_while PassesOwn.never (pt_cmp (pc_isN (pv 5))) (pss_cons (ps_aug (i := 4) sc_parting_run.nd rfl (by first | exact Or.inl rfl | exact Or.inr rfl) pe_int ip_add)
  (pss_one (ps_set (i := 5) sc_parting_run.nd rfl (by first | exact Or.inl rfl | exact Or.inr rfl) (pe_dfK (d_run_with C) rfl rfl rfl rfl rfl hr (by rfl) (pa_cons (pv 0) (pa_cons (pv 1) (pa_cons (pv 3) (pa_cons (pe_dfK (d_whole C) rfl rfl rfl rfl rfl hr (by rfl) (pa_cons (pv 4) pa_nil)) pa_nil)))))))))
  (pss_one (ps_ret (pv 5)))))))), ?_⟩
  · rintro _ _ ⟨r, s, N, rfl, hr, hs, hl, hN, hd⟩
    rfl
  · rintro _ _ ⟨r, s, N, rfl, hr, hs, hl, hN, hd⟩
    have l1 : r.length ≤ 1000 := by omega
    have l2 : s.length ≤ 1000 := by omega
    have hl2 : r.length + s.length ≤ 60 := by omega
    have pe : EvD T K (tCall (spF T K fParts) [] E0 (tCons (tOp (rPlus K) (tCall (spF T K (fTupleOf 7)) [] E0 (tCons (tVar 0) tNil)) (tCall (spF T K (fTupleOf 7)) [] E0 (tCons (tVar 1) tNil))) tNil)) [.dat (rw_ r), .dat (rw_ s), .any, .any, .any, .any] (.list ((partsI (r ++ s)).map .int)) := by
      refine evd_call (evds_cons (EvD.is (evd_op (evd_call (evds_cons (evd_var rfl) evds_nil) (c_tuple_of_row l1)) (evd_call (evds_cons (evd_var rfl) evds_nil) (c_tuple_of_row l2)) (plus_tup (by simp; omega))) ?_) evds_nil) (c_parts (r := r ++ s) (by rw [List.length_append]; omega))
      show PyData.tuple (r.map pr ++ s.map pr) = PyData.tuple ((r ++ s).map pr)
      rw [List.map_append]
    refine std_seq (ρ1 := [.dat (rw_ r), .dat (rw_ s), .dat (.list ((partsI (r ++ s)).map .int)), .any, .any, .any]) (std_asg pe) ?_
    have ee : PyData.eqv (rw_ (restR r s)) (.tuple []) = decide (restR r s = []) := row_eqv _ []
    have t1 : TeD T K (tTest (tOp (rEqD K) (tCall (spF T K fRest) [] E0 (tCons (tVar 0) (tCons (tVar 1) tNil))) (tTup tNil))) [.dat (rw_ r), .dat (rw_ s), .dat (.list ((partsI (r ++ s)).map .int)), .any, .any, .any] (decide (restR r s = [])) :=
      TeD.is (ted_test (evd_op (evd_call (by walk_at "evs") (c_rest hr hs hl2 hN)) (evd_tup evds_nil (Nat.zero_le _)) (eq_D (row_shaped _) rfl))) ee
    have lastE : ∀ (m : Int) (a b c : Sl), (partsI (r ++ s)).getLast? = some m → EvD T K (tOp (rIx K) (tVar 2) (tUn (rU fun i => .int (-i)) (tC (.int 1)))) [.dat (rw_ r), .dat (rw_ s), .dat (.list ((partsI (r ++ s)).map .int)), a, b, c] (.int m) := fun m a b c hm =>
      evd_op (evd_var rfl) (evd_un evd_int neg_intD) (ix_lstD (at_last (by rw [List.getLast?_map, hm]; rfl)))
    rcases hd with ⟨h0, rfl⟩ | ⟨h0, m, hm, hm2, ok, rfl⟩ | ⟨h0, m, hm, hm2, hm8, n, e, n1, n2, oks, before, at_, rfl⟩
    · exact std_seqR (std_if (TeD.is t1 (decide_eq_true h0)) (fun _ => std_ret evd_non) fun h => by cases h)
    · refine std_seq (std_if (TeD.is t1 (decide_eq_false h0)) (fun h => by cases h) fun _ => std_next) ?_
      refine std_seqR (std_if (x := true) (TeD.is (ted_test (evd_op (lastE m _ _ _ hm) evd_int lt_intD)) (decide_eq_true hm2)) (fun _ => ?_) fun h => by cases h)
      exact std_ret (evd_call (evds_cons (evd_var rfl) (evds_cons (evd_var rfl) (evds_cons (evd_call evds_nil c_spring) (evds_cons (evd_call (by walk_at "evs") (c_step hr hs hl2 hN)) evds_nil)))) (c_run_with ok))
    · refine std_seq (std_if (TeD.is t1 (decide_eq_false h0)) (fun h => by cases h) fun _ => std_next) ?_
      refine std_seq (std_if (x := false) (TeD.is (ted_test (evd_op (lastE m _ _ _ hm) evd_int lt_intD)) (decide_eq_false (by omega))) (fun h => by cases h) fun _ => std_next) ?_
      let ρ : Nat → PyData → List Sl := fun i d => [.dat (rw_ r), .dat (rw_ s), .dat (.list ((partsI (r ++ s)).map .int)), .dat (pt (cells (m + 1))), .dat (.int (i : Nat)), .dat d]
      refine std_seq (ρ1 := ρ 0 .none) (std_par3 (d1 := pt (cells (m + 1))) (d2 := .int ((0 : Nat) : Int)) (d3 := .none) (evds_cons (evd_call (evds_cons (EvD.is (evd_op (lastE m _ _ _ hm) evd_int plus_int) (rfl : PyData.int ((m : Int) + 1) = PyData.int ((m + 1 : Nat) : Int))) evds_nil) (c_cell (m := m + 1) (show m + 1 ≤ 9 by omega))) (evds_cons evd_int (evds_cons evd_non evds_nil)))) ?_
      have body : ∀ i, i < n → StD T K (tSeq (tAug 4 (tC (.int 1)) (ipI (· + ·))) (tAsg (tCall (spF T K fRunWith) [] E0 (tCons (tVar 0) (tCons (tVar 1) (tCons (tVar 3) (tCons (tCall (spF T K fWhole) [] E0 (tCons (tVar 4) tNil)) tNil))))) (gName 5))) (ρ i .none) (.nx (ρ (i + 1) (runD (cells (m + 1)) (((i + 1 : Nat) : Int) : Rat) (runW (cells (m + 1)) (((i + 1 : Nat) : Int) : Rat) r s)))) := fun i hi => by
        have st := std_aug (T := T) (K := K) (ρ := ρ i .none) (i := 4) (f := (· + ·)) (te := tC (.int 1)) rfl evd_int
        have en : ((i : Nat) : Int) + 1 = ((i + 1 : Nat) : Int) := by omega
        rw [en] at st
        refine std_seq (ρ1 := ρ (i + 1) .none) st ?_
        exact std_asg (evd_call (evds_cons (evd_var rfl) (evds_cons (evd_var rfl) (evds_cons (evd_var rfl) (evds_cons (evd_call (evds_cons (evd_var (i := 4) rfl) evds_nil) c_whole) evds_nil)))) (c_run_with (oks (i + 1) (by omega) (by omega))))
      have W : ∀ k i, i + k = n → 1 ≤ k → Wh T K (tB (tIsN (tVar 5))) (tSeq (tAug 4 (tC (.int 1)) (ipI (· + ·))) (tAsg (tCall (spF T K fRunWith) [] E0 (tCons (tVar 0) (tCons (tVar 1) (tCons (tVar 3) (tCons (tCall (spF T K fWhole) [] E0 (tCons (tVar 4) tNil)) tNil))))) (gName 5))) (ρ i .none) (ρ n (runD (cells (m + 1)) ((n : Int) : Rat) (some e))) := fun k => by
        induction k with
        | zero => intro i _ h; omega
        | succ k ih =>
          intro i hik _
          have b := body i (by omega)
          refine .more (TeD.is (x := isNo .none) (ted_B (evd_isN (evd_var (i := 5) rfl))) rfl) b ?_
          cases k with
          | zero =>
            have : i + 1 = n := by omega
            subst this
            rw [at_]
            exact .stop (TeD.is (x := isNo (runD (cells (m + 1)) (((i + 1 : Nat) : Int) : Rat) (some e))) (ted_B (evd_isN (evd_var (i := 5) rfl))) rfl)
          | succ k =>
            rw [before (i + 1) (by omega) (by omega)]
            exact ih (i + 1) (by omega) (by omega)
      exact std_seq (std_wh (W n 0 (by omega) n1)) (std_ret (evd_var (i := 5) rfl))
end
end K37
namespace K37
open PySem PySem.Spec L2
local macro_rules | `(tactic| walk_at "sz") => `(tactic| first | assumption | decide | omega)
local macro_rules | `(tactic| walk_at "call") => `(tactic| fail "no call")
local macro_rules | `(tactic| walk_at "cb") => `(tactic| first
  | with_reducible exact gcd_D | with_reducible exact len_T | with_reducible exact len_L | with_reducible exact tuple_L | with_reducible exact tuple_T | with_reducible exact max_D | with_reducible exact min_D | with_reducible exact abs_D
  | with_reducible exact int_D | with_reducible exact int_B)
local macro_rules | `(tactic| walk_at "op") => `(tactic| first
  | with_reducible exact minus_int | with_reducible exact plus_int | ((with_reducible apply times_int); walk_at "sz") | ((with_reducible apply ix_tupD); exact rfl) | ((with_reducible apply ix_lstD); exact rfl)
  | with_reducible exact lt_intD | with_reducible exact le_intD | with_reducible exact gt_intD | with_reducible exact ge_intD
  | ((with_reducible apply eq_D) <;> first | exact rfl | exact fr_shaped _ | assumption) | ((with_reducible apply ne_D) <;> first | exact rfl | exact fr_shaped _ | assumption)
  | ((with_reducible apply fdiv_int); walk_at "sz") | ((with_reducible apply fmod_int); walk_at "sz")
  | ((with_reducible apply plus_tup); walk_at "sz") | ((with_reducible apply plus_lst); walk_at "sz"))
local macro_rules | `(tactic| walk_at "evs") => `(tactic| first
  | with_reducible exact evds_nil
  | ((with_reducible apply evds_cons); (· walk_at "ev"); (· walk_at "evs")))
local macro_rules | `(tactic| walk_at "ev") => `(tactic| first
  | assumption
  | ((with_reducible apply evd_var); exact rfl)
  | with_reducible exact evd_int | with_reducible exact evd_cst | with_reducible exact evd_non | with_reducible exact evd_bl
  | ((with_reducible apply evd_op); (· walk_at "ev"); (· walk_at "ev"); (· walk_at "op"))
  | ((with_reducible apply evd_un); (· walk_at "ev"); (· with_reducible exact neg_intD))
  | ((with_reducible apply evd_call); (· walk_at "evs"); (· walk_at "call"))
  | ((with_reducible apply evd_cb); (· walk_at "evs"); (· walk_at "cb"))
  | ((with_reducible apply evd_tup); (· walk_at "evs"); (· exact Nat.le_of_ble_eq_true rfl))
  | ((with_reducible apply evd_isN); walk_at "ev") | ((with_reducible apply evd_notN); walk_at "ev")
  | ((with_reducible apply evd_not); walk_at "ev"))
local macro_rules | `(tactic| walk_at "te") => `(tactic| first
  | ((with_reducible apply ted_test); walk_at "ev") | ((with_reducible apply ted_B); walk_at "ev") | ((with_reducible apply ted_not); walk_at "te"))

/-! ### the word that parts two rows -/
def wordOf (parts ls : List Int) : List Int := ls.filterMap fun l => if l < (parts.length : Int) then some (parts.getD l.toNat 0) else none
def hitB (t : Row) (n : Nat) (u : List Int) : Bool := decide (u.length = n) && !decide ((worth t u).getD u.length 0 = 0)
def lynS (k : Int) (n : Nat) : List (List Int) := (genL k n 900 [0]).mergeSort (PySem.W.dataLe false keyW)
def manyOf (t : Row) : Nat := max 1 (partsI t).length
def tryW (t : Row) (n : Nat) (ls : List Int) : Option (List Int) := if hitB t n (wordOf (partsI t) ls) = true then some (wordOf (partsI t) ls) else none
def tryN (t : Row) (n : Nat) : Option (List Int) := (lynS (manyOf t : Nat) n).findSome? (tryW t n)
def topOf (t : Row) : Nat := max 1 (t.length / 2)
def pword (t : Row) : Option (List Int) := (List.range (topOf t)).findSome? fun i => tryN t (i + 1)
structure WorthOk (t : Row) (u : List Int) : Prop where
  ok : ∀ i p, t[i]? = some p → BehOk (worth (t.take i) u) u p.1 p.2
structure PwOk (t : Row) : Prop where
  len : t.length < 60
  done : ∀ n, 1 ≤ n → n ≤ topOf t → doneL (manyOf t : Nat) n 900 [0] = true
  pos : ∀ n, 1 ≤ n → n ≤ topOf t → ∀ ls ∈ lynS (manyOf t : Nat) n, (∀ l ∈ ls, 0 ≤ l) ∧ ls.length ≤ 100 ∧ ((wordOf (partsI t) ls).length = n → WorthOk t (wordOf (partsI t) ls))
  few : ∀ n, 1 ≤ n → n ≤ topOf t → (lynS (manyOf t : Nat) n).length ≤ 10000
def fPword (ds : List PyData) (d : PyData) : Prop := ∃ (r s : Row) (N : Nat), ds = [rw_ r, rw_ s] ∧ RowQ N r ∧ RowQ N s ∧ r.length + s.length ≤ 60 ∧ N * 60 < 2 ^ 64 ∧ PwOk (restR r s) ∧ d = optW (pword (restR r s))
theorem range_find {α β : Type} (f : α → Option β) : ∀ l : List α, (List.range l.length).findSome? (fun j => (l[j]?).bind f) = l.findSome? f := fun l => by
  induction l with
  | nil => rfl
  | cons x l ih =>
    rw [List.length_cons, List.range_succ_eq_map, List.findSome?_cons, List.findSome?_cons, List.findSome?_map]
    show (match f x with | some b => some b | none => _) = _
    cases f x with
    | some b => rfl
    | none => exact ih
section
variable {P : Program} {w : World} {K : PySem.W.Frag} {mg : Str → Option Value} {base : Heap} {T : Tb}
theorem c_lyn {k : Int} {n : Nat} (h1 : doneL k n 900 [0] = true) (h2 : n ≤ 100) : fLyn [.int k, .int n] (.list ((lynS k n).map intsV)) := ⟨k, n, 900, rfl, h1, h2, by decide, rfl⟩
theorem ints_shaped (xs : List Int) : SeqAt.shaped (intsV xs) = true := by
  have h1 : PyData.canLayAll0 (xs.map PyData.int) = true := lay0_map PyData.int (fun x => rfl) xs
  have h2 := ints_depth xs
  simp [SeqAt.shaped, intsV, PyData.canLay0, PyData.depth, h1, h2]
theorem optW_map (o : Option (List Int)) : (∀ x, o.map intsV = some x → x = optW o) ∧ (o.map intsV = none → optW o = .none) := by
  cases o with
  | none => exact ⟨fun x h => (by cases h), fun _ => rfl⟩
  | some u => exact ⟨fun x h => (by cases h; rfl), fun h => (by cases h)⟩
theorem sc_parting_word : FnScope ["row", "other", "rest", "parts", "power", "letters", "word", "letter"] ["row", "other"] (defScope (top 52)) := ⟨rfl, rfl, rfl, by decide +kernel, rfl, by decide +kernel, by decide +kernel⟩
theorem d_parting_word (C : CT P w K mg base T) : Df P w K mg base "parting_word" 12 ["row", "other"] (spF T K fPword) := by
  refine df_of C (i := 35) (x := "parting_word") (N := ["row", "other", "rest", "parts", "power", "letters", "word", "letter"]) (n := 6) rfl sc_parting_word (fun _ _ _ _ _ _ us hl => match us, hl with | [_, _], _ => rfl) ?_ rfl fun cdv A outer s H E fa hr => ⟨_, (pss_cons (ps_set (i := 2) sc_parting_word.nd rfl (by first | exact Or.inl rfl | exact Or.inr rfl) (pe_dfK (d_rest_of C) rfl rfl rfl rfl rfl hr (by rfl) (pa_cons (pv 0) (pa_cons (pv 1) pa_nil))))
  (pss_cons (ps_set (i := 3) sc_parting_word.nd rfl (by first | exact Or.inl rfl | exact Or.inr rfl) (pe_dfK (d_parts_in C) rfl rfl rfl rfl rfl hr (by rfl) (pa_cons (pv 2) pa_nil)))
  (pss_cons (ps_for PassesOwn.never rfl (pi_range2 (by rfl) (C.free 11 _ rfl) (pa_cons pe_int (pa_cons (pe_op (op_plusK K rfl) (pe_callB (call_max2 rfl) (by rfl) (C.free 9 _ rfl) (by decide +kernel) (pa_cons pe_int (pa_cons (pe_op op_fdivZ (pe_callB (call_lenK K rfl) (by rfl) (C.free 7 _ rfl) (by decide +kernel) (pa_cons (pv 2) pa_nil)) pe_int) pa_nil))) pe_int) pa_nil))) (pg_name (i := 4) sc_parting_word.nd rfl (by first | exact Or.inl rfl | exact Or.inr rfl)) (pss_one (ps_for PassesOwn.never rfl (pi_seqK K rfl (pe_dfK (d_lyndon_words C) rfl rfl rfl rfl rfl hr (by rfl) (pa_cons (pe_callB (call_max2 rfl) (by rfl) (C.free 9 _ rfl) (by decide +kernel) (pa_cons pe_int (pa_cons (pe_callB (call_lenK K rfl) (by rfl) (C.free 7 _ rfl) (by decide +kernel) (pa_cons (pv 3) pa_nil)) pa_nil))) (pa_cons (pv 4) pa_nil)))) (pg_name (i := 5) sc_parting_word.nd rfl (by first | exact Or.inl rfl | exact Or.inr rfl)) (pss_cons (ps_set (i := 6) sc_parting_word.nd rfl (by first | exact Or.inl rfl | exact Or.inr rfl) (pe_callTy (call_tupleK K rfl) (by rfl) (C.free 16 _ rfl) (by decide +kernel) (pa_cons (pe_lc rfl sc_parting_word.nd (pi_seqK K rfl (pv 5)) (blkOk_by (own := [("letter", 7)]) (by kernel_rfl)) (fun _ _ _ _ _ => (pg_name (i := 7) sc_parting_word.nd rfl (by first | exact Or.inl rfl | exact Or.inr rfl))) (fun _ _ _ _ _ => pts_one (pt_cmpR op_lt (pv 7) (pe_callB (call_lenK K rfl) (by rfl) (C.free 7 _ rfl) (by decide +kernel) (pa_cons (pv 3) pa_nil)) (nomark _))) (fun _ _ _ _ _ => (pe_ix (ix_seqK K rfl) (pv 3) (pv 7) (fun _ _ => rfl)))) pa_nil)))
  (pss_one (ps_if (PW.pt (pw_and (pt_cmpR (op_eqK K rfl hr.units) (pe_callB (call_lenK K rfl) (by rfl) (C.free 7 _ rfl) (by decide +kernel) (pa_cons (pv 6) pa_nil)) (pv 4) (nomark _)) (pw_and1 (pt_cmpR (op_neK K rfl hr.units) (pe_dfK (d_word_worth C) rfl rfl rfl rfl rfl hr (by rfl) (pa_cons (pv 2) (pa_cons (pv 6) pa_nil))) (pe_cstK K rfl (by rfl) (C.cst 3 _ rfl)) (nomark _))))) (pss_one (ps_ret (pv 6))) pss_nil))))))
  (pss_one (ps_ret pe_non))))), ?_⟩
  · rintro _ _ ⟨r, s, N, rfl, hr, hs, hl, hN, ok, rfl⟩
    rfl
  · rintro _ _ ⟨r, s, N, rfl, hr, hs, hl, hN, ok, rfl⟩
    refine std_seq (std_asg (evd_call (by walk_at "evs") (c_rest hr hs hl hN))) ?_
    generalize restR r s = t at *
    refine std_seq (std_asg (evd_call (evds_cons (evd_var (i := 2) rfl) evds_nil) (c_parts ok.len))) ?_
    let ρ : List Sl := [.dat (rw_ r), .dat (rw_ s), .dat (rw_ t), .dat (.list ((partsI t).map .int)), .any, .any, .any, .any]
    have etop : max (1 : Int) (Int.fdiv ((t.map pr).length : Int) 2) + 1 = ((topOf t + 1 : Nat) : Int) := by
      rw [List.length_map, Int.fdiv_eq_ediv_of_nonneg _ (by decide)]
      unfold topOf
      omega
    have emany : max (1 : Int) (((partsI t).map PyData.int).length : Int) = ((manyOf t : Nat) : Int) := by
      rw [List.length_map]
      unfold manyOf
      omega
    have topb : topOf t ≤ 60 := by have := ok.len; unfold topOf; omega
    have elen : (rngD 1 (((topOf t + 1 : Nat) : Int) - 1).toNat).length = topOf t := by rw [rngD_len]; omega
    refine std_seqO (ρ := ρ) (r := (List.range (topOf t)).findSome? fun i => (tryN t (i + 1)).map intsV) ?_ (fun hn => ?_) fun x hx => ?_
    rotate_left
    · have hp : (pword t).map intsV = none := by
        unfold pword
        rw [← hn, List.map_findSome?]; rfl
      rw [(optW_map _).2 hp]
      exact std_ret evd_non
    · refine (optW_map _).1 x ?_
      unfold pword
      rw [← hx, List.map_findSome?]; rfl
    rw [← elen]
    refine std_forO (js := [4]) _ (itd_rng2 (lo := 1) (n := ((topOf t + 1 : Nat) : Int)) (evds_cons evd_int (evds_cons (EvD.is (evd_op (evd_cb (evds_cons evd_int (evds_cons (evd_op (evd_cb (evds_cons (evd_var (i := 2) rfl) evds_nil) len_T) evd_int (fdiv_int ⟨by decide, by decide⟩)) evds_nil)) max_D) evd_int plus_int) (by rw [etop])) evds_nil))) fun i d hd => ?_
    obtain ⟨hi, rfl⟩ := rngD_get hd
    have hi2 : i < topOf t := by omega
    have e1i : (1 : Int) + ((i : Nat) : Int) = ((i + 1 : Nat) : Int) := by omega
    rw [e1i]
    refine ⟨_, tgd_name, ?_⟩
    let ρ2 : List Sl := [.dat (rw_ r), .dat (rw_ s), .dat (rw_ t), .dat (.list ((partsI t).map .int)), .dat (.int ((i + 1 : Nat) : Int)), .any, .any, .any]
    have hdone := ok.done (i + 1) (by omega) (by omega)
    have hpos := ok.pos (i + 1) (by omega) (by omega)
    have ll : ((lynS (manyOf t : Nat) (i + 1)).map intsV).length = (lynS (manyOf t : Nat) (i + 1)).length := List.length_map _
    have et : (tryN t (i + 1)).map intsV = (List.range ((lynS (manyOf t : Nat) (i + 1)).map intsV).length).findSome? fun j => ((lynS (manyOf t : Nat) (i + 1))[j]?).bind fun ls => (tryW t (i + 1) ls).map intsV := by
      rw [ll, range_find]
      unfold tryN
      rw [List.map_findSome?]; rfl
    rw [et]
    refine std_outW (ρ2 := ρ2) ?_ rfl ?_
    rotate_left
    · intro j s hj
      match j, hj with
      | 0, h => exact .inr h
      | 1, h => exact .inr h
      | 2, h => exact .inr h
      | 3, h => exact .inr h
      | 4, h => exact .inl (Option.some.inj h).symm
      | 5, h => exact .inl (Option.some.inj h).symm
      | 6, h => exact .inl (Option.some.inj h).symm
      | 7, h => exact .inl (Option.some.inj h).symm
      | _ + 8, h => cases h
    show StD T K _ ρ2 _
    refine std_forO (js := [5]) _ (itd_L (evd_call (evds_cons (EvD.is (evd_cb (evds_cons evd_int (evds_cons (evd_cb (evds_cons (evd_var (i := 3) rfl) evds_nil) len_L) evds_nil)) max_D) (by rw [emany])) (evds_cons (evd_var (i := 4) rfl) evds_nil)) (c_lyn hdone (by omega)))) fun j d hd => ?_
    rw [List.getElem?_map] at hd
    cases hls : (lynS (manyOf t : Nat) (i + 1))[j]? with
    | none => rw [hls] at hd; cases hd
    | some ls =>
      rw [hls] at hd
      cases hd
      obtain ⟨hp, hl100, hw⟩ := hpos ls (mem_get hls)
      refine ⟨_, tgd_name, ?_⟩
      show StD T K _ _ (outO ρ2 ((tryW t (i + 1) ls).map intsV))
      have ew : (ls.map fun l => if l < ((partsI t).length : Int) then some (PyData.int ((partsI t).getD l.toNat 0)) else none).filterMap id = (wordOf (partsI t) ls).map .int := by
        unfold wordOf
        rw [List.filterMap_map, List.map_filterMap]
        congr 1
        funext l
        by_cases c : l < ((partsI t).length : Int) <;> simp [c]
      refine std_seq (ρ1 := [.dat (rw_ r), .dat (rw_ s), .dat (rw_ t), .dat (.list ((partsI t).map .int)), .dat (.int ((i + 1 : Nat) : Int)), .dat (intsV ls), .dat (intsV (wordOf (partsI t) ls)), .any]) (std_asg (evd_cb (evds_cons (EvF.is (evf_lcIf (js := [7]) (ls.map fun l => if l < ((partsI t).length : Int) then some (PyData.int ((partsI t).getD l.toNat 0)) else none) (itd_T (ds := ls.map .int) (evd_var (i := 5) rfl)) (by decide) (by simp) (by simp; omega) fun k d e hd he => ?_) ew).ev evds_nil) tuple_L)) ?_
      · rw [List.getElem?_map] at hd he
        cases hk : ls[k]? with
        | none => rw [hk] at hd; cases hd
        | some l =>
          rw [hk] at hd he
          cases hd; cases he
          have l0 := hp l (mem_get hk)
          have tst : TeD T K (tTest (tOp (rI0 fun i j => .bl (decide (i < j))) (tVar 7) (tCB (rLenS K) (tCons (tVar 3) tNil)))) [.dat (rw_ r), .dat (rw_ s), .dat (rw_ t), .dat (.list ((partsI t).map .int)), .dat (.int ((i + 1 : Nat) : Int)), .dat (intsV ls), .any, .dat (.int l)] (decide (l < ((partsI t).length : Int))) :=
            TeD.is (ted_test (evd_op (evd_var rfl) (evd_cb (evds_cons (evd_var (i := 3) rfl) evds_nil) len_L) lt_intD)) (by rw [List.length_map])
          refine ⟨_, tgd_name, TeD.is tst ?_, fun y hy => ?_⟩
          · by_cases c : l < ((partsI t).length : Int) <;> simp [c]
          · by_cases c : l < ((partsI t).length : Int)
            · have hy : (if l < ((partsI t).length : Int) then some (PyData.int ((partsI t).getD l.toNat 0)) else none) = some y := hy
              rw [if_pos c] at hy
              cases hy
              have e : l = ((l.toNat : Nat) : Int) := by omega
              have hx : atI ((partsI t).map PyData.int) l = some (.int ((partsI t).getD l.toNat 0)) := by
                conv => lhs; rw [e]
                exact at_nat (int_at (by omega))
              exact evd_op (evd_var rfl) (evd_var rfl) (ix_lstD hx)
            · have hy : (if l < ((partsI t).length : Int) then some (PyData.int ((partsI t).getD l.toNat 0)) else none) = some y := hy
              rw [if_neg c] at hy; cases hy
      · show StD T K _ _ (outO ρ2 ((if hitB t (i + 1) (wordOf (partsI t) ls) = true then some (wordOf (partsI t) ls) else none).map intsV))
        have hul : (wordOf (partsI t) ls).length ≤ 100 := Nat.le_trans (List.length_filterMap_le _ _) hl100
        generalize wordOf (partsI t) ls = u at *
        have tst : TeD T K (tAnd (tTest (tOp (rEqD K) (tCB (rLenS K) (tCons (tVar 6) tNil)) (tVar 4))) (tTest (tOp (rNeD K) (tCall (spF T K fWorth) [] E0 (tCons (tVar 2) (tCons (tVar 6) tNil))) (tCst K (fr 0))))) [.dat (rw_ r), .dat (rw_ s), .dat (rw_ t), .dat (.list ((partsI t).map .int)), .dat (.int ((i + 1 : Nat) : Int)), .dat (intsV ls), .dat (intsV u), .any] (hitB t (i + 1) u) := by
          refine ted_and (TeD.is (ted_test (evd_op (evd_cb (evds_cons (evd_var (i := 6) rfl) evds_nil) len_T) (evd_var (i := 4) rfl) (eq_D rfl rfl))) ?_) fun hx => ?_
          · rw [eqv_int, List.length_map]
            exact decide_eq_decide.mpr ⟨fun h => by omega, fun h => by omega⟩
          · have hw2 := hw (of_decide_eq_true hx)
            exact TeD.is (ted_test (evd_op (evd_call (evds_cons (evd_var (i := 2) rfl) (evds_cons (evd_var (i := 6) rfl) evds_nil)) (c_worth (by have := ok.len; omega) hul hw2.ok)) evd_cst (ne_D (fr_shaped _) (fr_shaped _)))) (by rw [fr_eqv])
        by_cases hb : hitB t (i + 1) u = true
        · rw [if_pos hb]
          exact std_if (TeD.is tst hb) (fun _ => std_ret (evd_var (i := 6) rfl)) fun h => by cases h
        · rw [if_neg hb]
          refine std_weakN (ρ1 := [.dat (rw_ r), .dat (rw_ s), .dat (rw_ t), .dat (.list ((partsI t).map .int)), .dat (.int ((i + 1 : Nat) : Int)), .dat (intsV ls), .dat (intsV u), .any]) (std_if (TeD.is tst (Bool.eq_false_iff.mpr hb)) (fun h => by cases h) fun _ => std_next) rfl ?_
          intro j s hj
          match j, hj with
          | 0, h => exact .inr h
          | 1, h => exact .inr h
          | 2, h => exact .inr h
          | 3, h => exact .inr h
          | 4, h => exact .inr h
          | 5, h => exact .inl (Option.some.inj h).symm
          | 6, h => exact .inl (Option.some.inj h).symm
          | 7, h => exact .inl (Option.some.inj h).symm
          | _ + 8, h => cases h
end
end K37
namespace K37
open PySem PySem.Spec L2
local macro_rules | `(tactic| walk_at "sz") => `(tactic| first | assumption | decide | omega)
local macro_rules | `(tactic| walk_at "call") => `(tactic| fail "no call")
local macro_rules | `(tactic| walk_at "cb") => `(tactic| first
  | with_reducible exact gcd_D | with_reducible exact len_T | with_reducible exact len_L | with_reducible exact tuple_L | with_reducible exact tuple_T | with_reducible exact max_D | with_reducible exact min_D | with_reducible exact abs_D
  | with_reducible exact int_D | with_reducible exact int_B)
local macro_rules | `(tactic| walk_at "op") => `(tactic| first
  | with_reducible exact minus_int | with_reducible exact plus_int | ((with_reducible apply times_int); walk_at "sz") | ((with_reducible apply ix_tupD); exact rfl) | ((with_reducible apply ix_lstD); exact rfl)
  | with_reducible exact lt_intD | with_reducible exact le_intD | with_reducible exact gt_intD | with_reducible exact ge_intD
  | ((with_reducible apply eq_D) <;> first | exact rfl | exact fr_shaped _ | assumption) | ((with_reducible apply ne_D) <;> first | exact rfl | exact fr_shaped _ | assumption)
  | ((with_reducible apply fdiv_int); walk_at "sz") | ((with_reducible apply fmod_int); walk_at "sz")
  | ((with_reducible apply plus_tup); walk_at "sz") | ((with_reducible apply plus_lst); walk_at "sz"))
local macro_rules | `(tactic| walk_at "evs") => `(tactic| first
  | with_reducible exact evds_nil
  | ((with_reducible apply evds_cons); (· walk_at "ev"); (· walk_at "evs")))
local macro_rules | `(tactic| walk_at "ev") => `(tactic| first
  | assumption
  | ((with_reducible apply evd_var); exact rfl)
  | with_reducible exact evd_int | with_reducible exact evd_cst | with_reducible exact evd_non | with_reducible exact evd_bl
  | ((with_reducible apply evd_op); (· walk_at "ev"); (· walk_at "ev"); (· walk_at "op"))
  | ((with_reducible apply evd_un); (· walk_at "ev"); (· with_reducible exact neg_intD))
  | ((with_reducible apply evd_call); (· walk_at "evs"); (· walk_at "call"))
  | ((with_reducible apply evd_cb); (· walk_at "evs"); (· walk_at "cb"))
  | ((with_reducible apply evd_tup); (· walk_at "evs"); (· exact Nat.le_of_ble_eq_true rfl))
  | ((with_reducible apply evd_isN); walk_at "ev") | ((with_reducible apply evd_notN); walk_at "ev")
  | ((with_reducible apply evd_not); walk_at "ev"))
local macro_rules | `(tactic| walk_at "te") => `(tactic| first
  | ((with_reducible apply ted_test); walk_at "ev") | ((with_reducible apply ted_B); walk_at "ev") | ((with_reducible apply ted_not); walk_at "te"))

/-! ### what is a fraction, a row, a matrix, a push: told of those that are -/
def fIsNum (ds : List PyData) (d : PyData) : Prop := ∃ n : Int, ds = [.int n] ∧ d = .bool true
def fIsTup (ds : List PyData) (d : PyData) : Prop := ∃ (xs : List PyData) (k : Nat), ds = [.tuple xs, .int k] ∧ xs.length = k ∧ d = .bool true
def fIsFr (ds : List PyData) (d : PyData) : Prop := ∃ q : Rat, ds = [fr q] ∧ d = .bool true
def fIsRow (ds : List PyData) (d : PyData) : Prop := ∃ v : Vc, ds = [vt v, .int 2] ∧ d = .bool true
def fIsMat (ds : List PyData) (d : PyData) : Prop := ∃ N : Mx, ds = [mt N, .int 2, .int 2] ∧ d = .bool true
theorem kit_ii : kitB "int" "int" = some true ∧ kitB "int" "bool" = some false := ⟨by decide +kernel, by decide +kernel⟩
section
variable {P : Program} {w : World} {K : PySem.W.Frag} {mg : Str → Option Value} {base : Heap} {T : Tb}
theorem sc_is_number : FnScope ["thing"] ["thing"] (defScope (top 2)) := ⟨rfl, rfl, rfl, by decide +kernel, rfl, by decide +kernel, by decide +kernel⟩
theorem d_is_number (C : CT P w K mg base T) : Df P w K mg base "is_number" 1 ["thing"] (spF T K fIsNum) := by
  refine df_of C (i := 0) (x := "is_number") (N := ["thing"]) (n := 0) rfl sc_is_number (fun _ _ _ _ _ _ us hl => match us, hl with | [_], _ => rfl) ?_ rfl fun cdv A outer s H E fa hr => ⟨_, (pss_one (ps_ret (pe_and (pe_callB (call_isiK1 K rfl) (by rfl) (C.free 6 _ rfl) (by decide +kernel) (pa_cons (pv 0) (pa_cons (pe_bltn (v := .ty "int") (by rfl) (C.free 5 _ rfl) (by decide +kernel) rfl) pa_nil))) (pe_one (pe_not (pe_callB (call_isiK1 K rfl) (by rfl) (C.free 6 _ rfl) (by decide +kernel) (pa_cons (pv 0) (pa_cons (pe_bltn (v := .ty "bool") (by rfl) (C.free 3 _ rfl) (by decide +kernel) rfl) pa_nil)))))))), ?_⟩
  · rintro _ _ ⟨n, rfl, rfl⟩
    rfl
  · rintro _ _ ⟨n, rfl, rfl⟩
    exact std_ret (evd_and (x := true) (evd_isi (evd_var rfl) kit_ii.1) (fun _ => EvD.is (evd_not (evd_isi (evd_var rfl) kit_ii.2)) rfl) fun h => by cases h)
theorem c_isnum {n : Int} : fIsNum [.int n] (.bool true) := ⟨n, rfl, rfl⟩
theorem sc_is_tuple_of : FnScope ["thing", "many"] ["thing", "many"] (defScope (top 4)) := ⟨rfl, rfl, rfl, by decide +kernel, rfl, by decide +kernel, by decide +kernel⟩
theorem d_is_tuple_of (C : CT P w K mg base T) : Df P w K mg base "is_tuple_of" 1 ["thing", "many"] (spF T K fIsTup) := by
  refine df_of C (i := 2) (x := "is_tuple_of") (N := ["thing", "many"]) (n := 0) rfl sc_is_tuple_of (fun _ _ _ _ _ _ us hl => match us, hl with | [_, _], _ => rfl) ?_ rfl fun cdv A outer s H E fa hr => ⟨_, (pss_one (ps_ret (pe_and (pe_callB (call_isiK1 K rfl) (by rfl) (C.free 6 _ rfl) (by decide +kernel) (pa_cons (pv 0) (pa_cons (pe_bltn (v := .ty "tuple") (by rfl) (C.free 16 _ rfl) (by decide +kernel) rfl) pa_nil))) (pe_one (pe_cmpR (op_eqK K rfl hr.units) (pe_callB (call_lenK K rfl) (by rfl) (C.free 7 _ rfl) (by decide +kernel) (pa_cons (pv 0) pa_nil)) (pv 1) (nomark _)))))), ?_⟩
  · rintro _ _ ⟨xs, k, rfl, hk, rfl⟩
    rfl
  · rintro _ _ ⟨xs, k, rfl, hk, rfl⟩
    exact std_ret (evd_and (x := true) (evd_isi (evd_var rfl) kit2.2.2.2.2) (fun _ => EvD.is (evd_op (evd_cb (evds_cons (evd_var rfl) evds_nil) len_T) (evd_var rfl) (eq_D rfl rfl)) (by rw [eqv_int, hk]; simp)) fun h => by cases h)
theorem c_istup {xs : List PyData} {k : Nat} (h : xs.length = k) : fIsTup [.tuple xs, .int k] (.bool true) := ⟨xs, k, rfl, h, rfl⟩
theorem sc_is_fraction : FnScope ["thing", "top", "bottom"] ["thing"] (defScope (top 9)) := ⟨rfl, rfl, rfl, by decide +kernel, rfl, by decide +kernel, by decide +kernel⟩
theorem d_is_fraction (C : CT P w K mg base T) : Df P w K mg base "is_fraction" 2 ["thing"] (spF T K fIsFr) := by
  refine df_of C (i := 3) (x := "is_fraction") (N := ["thing", "top", "bottom"]) (n := 2) rfl sc_is_fraction (fun _ _ _ _ _ _ us hl => match us, hl with | [_], _ => rfl) ?_ rfl fun cdv A outer s H E fa hr => ⟨_, (pss_cons (ps_if (PW.pt (pw_or (pt_not (pt_val (pe_callB (call_isiK1 K rfl) (by rfl) (C.free 6 _ rfl) (by decide +kernel) (pa_cons (pv 0) (pa_cons (pe_bltn (v := .ty "tuple") (by rfl) (C.free 16 _ rfl) (by decide +kernel) rfl) pa_nil))))) (pw_or1 (pt_cmpR (op_neK K rfl hr.units) (pe_callB (call_lenK K rfl) (by rfl) (C.free 7 _ rfl) (by decide +kernel) (pa_cons (pv 0) pa_nil)) pe_int (nomark _))))) (pss_one (ps_ret pe_bl)) pss_nil)
  (pss_cons (ps_asg (pv 0) (pg_tupK K rfl (n := 2) rfl (pgs_cons (pg_name (i := 1) sc_is_fraction.nd rfl (by first | exact Or.inl rfl | exact Or.inr rfl)) (pgs_cons (pg_name (i := 2) sc_is_fraction.nd rfl (by first | exact Or.inl rfl | exact Or.inr rfl)) pgs_nil))))
  (pss_one (ps_ret (pe_and (pe_dfK (d_is_number C) rfl rfl rfl rfl rfl hr (by rfl) (pa_cons (pv 1) pa_nil)) (pe_and (pe_dfK (d_is_number C) rfl rfl rfl rfl rfl hr (by rfl) (pa_cons (pv 2) pa_nil)) (pe_and (pe_cmpR op_gt (pv 2) pe_int (nomark _)) (pe_one (pe_cmpR (op_eqK K rfl hr.units) (pe_callBfun cr_gcd (by rfl) C.gcd (pa_cons (pv 1) (pa_cons (pv 2) pa_nil))) pe_int (nomark _)))))))))), ?_⟩
  · rintro _ _ ⟨q, rfl, rfl⟩
    rfl
  · rintro _ _ ⟨q, rfl, rfl⟩
    have hb : (0 : Int) < (q.den : Int) := by have := den_pos q; omega
    have hg : ((Nat.gcd q.num.natAbs (q.den : Int).natAbs : Nat) : Int) = 1 := by
      have := q.reduced
      unfold Nat.Coprime at this
      rw [Int.natAbs_natCast, this]; rfl
    refine std_seq (std_if (x := false) (TeD.is (x := !true || !PyData.eqv (.int (([.int q.num, .int q.den] : List PyData).length : Int)) (.int 2)) (ted_or (ted_not (ted_B (evd_isi (evd_var rfl) kit2.2.2.2.2))) fun _ => by walk_at "te") rfl) (fun h => by cases h) fun _ => std_next) ?_
    refine std_seq (std_asgG (evd_var (i := 0) rfl) (tgd_tup2 tgd_name tgd_name)) ?_
    refine std_ret (evd_and (x := true) (evd_call (evds_cons (evd_var rfl) evds_nil) c_isnum) (fun _ => evd_and (x := true) (evd_call (evds_cons (evd_var rfl) evds_nil) c_isnum) (fun _ => evd_and (x := true) (EvD.is (evd_op (evd_var (i := 2) rfl) evd_int gt_intD) (by rw [decide_eq_true hb])) (fun _ => EvD.is (evd_op (evd_cb (evds_cons (evd_var (i := 1) rfl) (evds_cons (evd_var (i := 2) rfl) evds_nil)) gcd_D) evd_int (eq_D rfl rfl)) (by rw [hg]; rfl)) fun h => by cases h) fun h => by cases h) fun h => by cases h)
theorem c_isfr {q : Rat} : fIsFr [fr q] (.bool true) := ⟨q, rfl, rfl⟩
theorem sc_is_row : FnScope ["thing", "many", "part"] ["thing", "many"] (defScope (top 17)) := ⟨rfl, rfl, rfl, by decide +kernel, rfl, by decide +kernel, by decide +kernel⟩
theorem d_is_row (C : CT P w K mg base T) : Df P w K mg base "is_row" 3 ["thing", "many"] (spF T K fIsRow) := by
  refine df_of C (i := 11) (x := "is_row") (N := ["thing", "many", "part"]) (n := 1) rfl sc_is_row (fun _ _ _ _ _ _ us hl => match us, hl with | [_, _], _ => rfl) ?_ rfl fun cdv A outer s H E fa hr => ⟨_, (pss_one (ps_ret (pe_and (pe_dfK (d_is_tuple_of C) rfl rfl rfl rfl rfl hr (by rfl) (pa_cons (pv 0) (pa_cons (pv 1) pa_nil))) (pe_one (pe_callB (cr_allK K rfl rfl) (by rfl) (C.free 1 _ rfl) (by decide +kernel) (pa_cons (pe_lc rfl sc_is_row.nd (pi_seqK K rfl (pv 0)) (blkOk_by (own := [("part", 2)]) (by kernel_rfl)) (fun _ _ _ _ _ => (pg_name (i := 2) sc_is_row.nd rfl (by first | exact Or.inl rfl | exact Or.inr rfl))) (fun _ _ _ _ _ => pts_nil) (fun _ _ _ _ _ => (pe_dfK (d_is_fraction C) rfl rfl rfl rfl rfl hr (by rfl) (pa_cons (pv 2) pa_nil)))) pa_nil)))))), ?_⟩
  · rintro _ _ ⟨v, rfl, rfl⟩
    rfl
  · rintro _ _ ⟨v, rfl, rfl⟩
    refine std_ret (evd_and (x := true) (evd_call (evds_cons (evd_var rfl) (evds_cons (evd_var rfl) evds_nil)) (c_istup (k := 2) rfl)) (fun _ => EvD.is (evd_cb (evds_cons (EvF.is (evf_lc (js := [2]) [.bool true, .bool true] (itd_T (ds := [fr v.1, fr v.2]) (evd_var rfl)) (by decide) rfl (Nat.le_of_ble_eq_true rfl) fun i d e hd he => ?_) (rfl : _ = [true, true].map PyData.bool)).ev evds_nil) all_D) rfl) fun h => by cases h)
    match i, hd, he with
    | 0, hd, he => cases hd; cases he; exact ⟨_, tgd_name, evd_call (evds_cons (evd_var rfl) evds_nil) c_isfr⟩
    | 1, hd, he => cases hd; cases he; exact ⟨_, tgd_name, evd_call (evds_cons (evd_var rfl) evds_nil) c_isfr⟩
    | _ + 2, hd, he => cases hd
theorem c_isrow {v : Vc} : fIsRow [vt v, .int 2] (.bool true) := ⟨v, rfl, rfl⟩
theorem sc_is_matrix : FnScope ["thing", "high", "wide", "part"] ["thing", "high", "wide"] (defScope (top 18)) := ⟨rfl, rfl, rfl, by decide +kernel, rfl, by decide +kernel, by decide +kernel⟩
theorem d_is_matrix (C : CT P w K mg base T) : Df P w K mg base "is_matrix" 4 ["thing", "high", "wide"] (spF T K fIsMat) := by
  refine df_of C (i := 12) (x := "is_matrix") (N := ["thing", "high", "wide", "part"]) (n := 1) rfl sc_is_matrix (fun _ _ _ _ _ _ us hl => match us, hl with | [_, _, _], _ => rfl) ?_ rfl fun cdv A outer s H E fa hr => ⟨_, (pss_one (ps_ret (pe_and (pe_dfK (d_is_tuple_of C) rfl rfl rfl rfl rfl hr (by rfl) (pa_cons (pv 0) (pa_cons (pv 1) pa_nil))) (pe_one (pe_callB (cr_allK K rfl rfl) (by rfl) (C.free 1 _ rfl) (by decide +kernel) (pa_cons (pe_lc rfl sc_is_matrix.nd (pi_seqK K rfl (pv 0)) (blkOk_by (own := [("part", 3)]) (by kernel_rfl)) (fun _ _ _ _ _ => (pg_name (i := 3) sc_is_matrix.nd rfl (by first | exact Or.inl rfl | exact Or.inr rfl))) (fun _ _ _ _ _ => pts_nil) (fun _ _ _ _ _ => (pe_dfK (d_is_row C) rfl rfl rfl rfl rfl hr (by rfl) (pa_cons (pv 3) (pa_cons (pv 2) pa_nil))))) pa_nil)))))), ?_⟩
  · rintro _ _ ⟨N, rfl, rfl⟩
    rfl
  · rintro _ _ ⟨N, rfl, rfl⟩
    refine std_ret (evd_and (x := true) (evd_call (evds_cons (evd_var rfl) (evds_cons (evd_var rfl) evds_nil)) (c_istup (k := 2) rfl)) (fun _ => EvD.is (evd_cb (evds_cons (EvF.is (evf_lc (js := [3]) [.bool true, .bool true] (itd_T (ds := [vt N.1, vt N.2]) (evd_var rfl)) (by decide) rfl (Nat.le_of_ble_eq_true rfl) fun i d e hd he => ?_) (rfl : _ = [true, true].map PyData.bool)).ev evds_nil) all_D) rfl) fun h => by cases h)
    match i, hd, he with
    | 0, hd, he => cases hd; cases he; exact ⟨_, tgd_name, evd_call (evds_cons (evd_var rfl) (evds_cons (evd_var rfl) evds_nil)) c_isrow⟩
    | 1, hd, he => cases hd; cases he; exact ⟨_, tgd_name, evd_call (evds_cons (evd_var rfl) (evds_cons (evd_var rfl) evds_nil)) c_isrow⟩
    | _ + 2, hd, he => cases hd
theorem c_ismat {N : Mx} : fIsMat [mt N, .int 2, .int 2] (.bool true) := ⟨N, rfl, rfl⟩
def trM (N : Mx) : Mx := ((N.1.1, N.2.1), (N.1.2, N.2.2))
def mmM (N O : Mx) : Mx := (mv (trM O) N.1, mv (trM O) N.2)
def fTrM (ds : List PyData) (d : PyData) : Prop := ∃ N : Mx, ds = [mt N, .int 2] ∧ d = mt (trM N)
def fProd (ds : List PyData) (d : PyData) : Prop := ∃ N O : Mx, ds = [mt N, mt O] ∧ SmM 5 N ∧ SmM 5 O ∧ d = mt (mmM N O)
def fNilp (ds : List PyData) (d : PyData) : Prop := ∃ N : Mx, ds = [mt N] ∧ SmM 5 N ∧ mmM N N = ((0, 0), (0, 0)) ∧ d = .bool true
def fIsPush (ds : List PyData) (d : PyData) : Prop := ∃ Ns : List Mx, ds = [pt Ns] ∧ 0 < Ns.length ∧ Ns.length ≤ 10 ∧ (∀ N ∈ Ns, SmM 5 N ∧ mmM N N = ((0, 0), (0, 0))) ∧ d = .bool true
theorem c_tup_fr {q : Rat} : fTupleOf 7 [fr q] (fr q) := ⟨_, rfl, by rw [dep_fr]; omega, ok_fr q, (tup_fr q).symm⟩
theorem sc_turned : FnScope ["matrix", "wide", "k", "row"] ["matrix", "wide"] (defScope (top 21)) := ⟨rfl, rfl, rfl, by decide +kernel, rfl, by decide +kernel, by decide +kernel⟩
theorem d_turned (C : CT P w K mg base T) : Df P w K mg base "turned" 9 ["matrix", "wide"] (spF T K fTrM) := by
  refine df_of C (i := 15) (x := "turned") (N := ["matrix", "wide", "k", "row"]) (n := 2) rfl sc_turned (fun _ _ _ _ _ _ us hl => match us, hl with | [_, _], _ => rfl) ?_ rfl fun cdv A outer s H E fa hr => ⟨_, (pss_one (ps_ret (pe_callTy (call_tupleK K rfl) (by rfl) (C.free 16 _ rfl) (by decide +kernel) (pa_cons (pe_lc rfl sc_turned.nd (pi_range1 (by rfl) (C.free 11 _ rfl) (pa_cons (pv 1) pa_nil)) (blkOk_by (own := [("k", 2)]) (by kernel_rfl)) (fun _ _ _ _ _ => (pg_name (i := 2) sc_turned.nd rfl (by first | exact Or.inl rfl | exact Or.inr rfl))) (fun _ _ _ _ _ => pts_nil) (fun _ _ _ _ _ => (pe_callTy (call_tupleK K rfl) (by rfl) (C.free 16 _ rfl) (by decide +kernel) (pa_cons (pe_lc rfl sc_turned.nd (pi_seqK K rfl (pv 0)) (blkOk_by (own := [("row", 3)]) (by kernel_rfl)) (fun _ _ _ _ _ => (pg_name (i := 3) sc_turned.nd rfl (by first | exact Or.inl rfl | exact Or.inr rfl))) (fun _ _ _ _ _ => pts_nil) (fun _ _ _ _ _ => (pe_dfK (d_tuple_of C) rfl rfl rfl rfl rfl hr (by rfl) (pa_cons (pe_ix (ix_seqK K rfl) (pv 3) (pv 2) (fun _ _ => rfl)) pa_nil)))) pa_nil)))) pa_nil)))), ?_⟩
  · rintro _ _ ⟨N, rfl, rfl⟩
    rfl
  · rintro _ _ ⟨N, rfl, rfl⟩
    have line : ∀ (k : Nat) (a b : Rat) (ρ : List Sl), ρ = [.dat (mt N), .dat (.int 2), .dat (.int (k : Nat)), .any] → [fr N.1.1, fr N.1.2][k]? = some (fr a) → [fr N.2.1, fr N.2.2][k]? = some (fr b) → EvD T K (tCB (rTupO K) (tCons (tLc (iSeq K (tVar 0)) (gName 3) tYes (tCall (spF T K (fTupleOf 7)) [] E0 (tCons (tOp (rIx K) (tVar 3) (tVar 2)) tNil)) [3]) tNil)) ρ (vt (a, b)) := fun k a b ρ hρ h1 h2 => by
      subst hρ
      refine evd_cb (evds_cons (evf_lc (js := [3]) [fr a, fr b] (itd_T (ds := [vt N.1, vt N.2]) (evd_var rfl)) (by decide) rfl (Nat.le_of_ble_eq_true rfl) fun i d e hd he => ?_).ev evds_nil) tuple_L
      match i, hd, he with
      | 0, hd, he => cases hd; cases he; exact ⟨_, tgd_name, evd_call (evds_cons (evd_op (evd_var rfl) (evd_var rfl) (ix_tupD (at_nat h1))) evds_nil) c_tup_fr⟩
      | 1, hd, he => cases hd; cases he; exact ⟨_, tgd_name, evd_call (evds_cons (evd_op (evd_var rfl) (evd_var rfl) (ix_tupD (at_nat h2))) evds_nil) c_tup_fr⟩
      | _ + 2, hd, he => cases hd
    refine std_ret (evd_cb (evds_cons (evf_lc (js := [2]) [vt (trM N).1, vt (trM N).2] (itd_rng1 (n := 2) (evds_cons (evd_var (i := 1) rfl) evds_nil) (by decide) (by decide)) (by decide) rfl (Nat.le_of_ble_eq_true rfl) fun i d e hd he => ?_).ev evds_nil) tuple_L)
    match i, hd, he with
    | 0, hd, he => cases hd; cases he; exact ⟨_, tgd_name, line 0 N.1.1 N.2.1 _ rfl rfl rfl⟩
    | 1, hd, he => cases hd; cases he; exact ⟨_, tgd_name, line 1 N.1.2 N.2.2 _ rfl rfl rfl⟩
    | _ + 2, hd, he => cases hd
theorem c_trM {N : Mx} : fTrM [mt N, .int 2] (mt (trM N)) := ⟨N, rfl, rfl⟩
theorem sm_trM {a : Nat} {N : Mx} (h : SmM a N) : SmM a (trM N) := ⟨⟨h.1.1, h.2.1⟩, ⟨h.1.2, h.2.2⟩⟩
theorem sc_product : FnScope ["matrix", "other", "columns", "row"] ["matrix", "other"] (defScope (top 22)) := ⟨rfl, rfl, rfl, by decide +kernel, rfl, by decide +kernel, by decide +kernel⟩
theorem d_product (C : CT P w K mg base T) : Df P w K mg base "product" 10 ["matrix", "other"] (spF T K fProd) := by
  refine df_of C (i := 16) (x := "product") (N := ["matrix", "other", "columns", "row"]) (n := 2) rfl sc_product (fun _ _ _ _ _ _ us hl => match us, hl with | [_, _], _ => rfl) ?_ rfl fun cdv A outer s H E fa hr => ⟨_, (pss_cons (ps_set (i := 2) sc_product.nd rfl (by first | exact Or.inl rfl | exact Or.inr rfl) (pe_dfK (d_turned C) rfl rfl rfl rfl rfl hr (by rfl) (pa_cons (pv 1) (pa_cons (pe_callB (call_lenK K rfl) (by rfl) (C.free 7 _ rfl) (by decide +kernel) (pa_cons (pe_ix (ix_seqK K rfl) (pv 1) pe_int (fun _ _ => rfl)) pa_nil)) pa_nil))))
  (pss_one (ps_ret (pe_callTy (call_tupleK K rfl) (by rfl) (C.free 16 _ rfl) (by decide +kernel) (pa_cons (pe_lc rfl sc_product.nd (pi_seqK K rfl (pv 0)) (blkOk_by (own := [("row", 3)]) (by kernel_rfl)) (fun _ _ _ _ _ => (pg_name (i := 3) sc_product.nd rfl (by first | exact Or.inl rfl | exact Or.inr rfl))) (fun _ _ _ _ _ => pts_nil) (fun _ _ _ _ _ => (pe_dfK (d_applied C) rfl rfl rfl rfl rfl hr (by rfl) (pa_cons (pv 2) (pa_cons (pv 3) pa_nil))))) pa_nil))))), ?_⟩
  · rintro _ _ ⟨N, O, rfl, hN, hO, rfl⟩
    rfl
  · rintro _ _ ⟨N, O, rfl, hN, hO, rfl⟩
    have h0 : atI [vt O.1, vt O.2] 0 = some (vt O.1) := rfl
    refine std_seq (std_asg (evd_call (evds_cons (evd_var (i := 1) rfl) (evds_cons (EvD.is (evd_cb (evds_cons (evd_op (evd_var (i := 1) rfl) evd_int (ix_tupD h0)) evds_nil) len_T) rfl) evds_nil)) c_trM)) ?_
    refine std_ret (evd_cb (evds_cons (evf_lc (js := [3]) [vt (mmM N O).1, vt (mmM N O).2] (itd_T (ds := [vt N.1, vt N.2]) (evd_var rfl)) (by decide) rfl (Nat.le_of_ble_eq_true rfl) fun i d e hd he => ?_).ev evds_nil) tuple_L)
    match i, hd, he with
    | 0, hd, he => cases hd; cases he; exact ⟨_, tgd_name, evd_call (evds_cons (evd_var rfl) (evds_cons (evd_var rfl) evds_nil)) (c_applied (sm_trM hO) (hN.1.mono (by decide)))⟩
    | 1, hd, he => cases hd; cases he; exact ⟨_, tgd_name, evd_call (evds_cons (evd_var rfl) (evds_cons (evd_var rfl) evds_nil)) (c_applied (sm_trM hO) (hN.2.mono (by decide)))⟩
    | _ + 2, hd, he => cases hd
theorem c_prod {N O : Mx} (h1 : SmM 5 N) (h2 : SmM 5 O) : fProd [mt N, mt O] (mt (mmM N O)) := ⟨N, O, rfl, h1, h2, rfl⟩
theorem sc__is_nilpotent : FnScope ["matrix", "power", "many", "row", "x"] ["matrix"] (defScope (top 53)) := ⟨rfl, rfl, rfl, by decide +kernel, rfl, by decide +kernel, by decide +kernel⟩
theorem d_is_nilpotent (C : CT P w K mg base T) : Df P w K mg base "_is_nilpotent" 11 ["matrix"] (spF T K fNilp) := by
  refine df_of C (i := 36) (x := "_is_nilpotent") (N := ["matrix", "power", "many", "row", "x"]) (n := 4) rfl sc__is_nilpotent (fun _ _ _ _ _ _ us hl => match us, hl with | [_], _ => rfl) ?_ rfl fun cdv A outer s H E fa hr => ⟨_, (pss_cons (ps_par (i := 1) (j := 2) rfl sc__is_nilpotent.nd rfl rfl (by decide) rfl rfl (pa_cons (pv 0) (pa_cons pe_int pa_nil)) (by rfl))
  (pss_cons (ps_while PassesOwn.never (pt_cmpR op_lt (pv 2) (pe_callB (call_lenK K rfl) (by rfl) (C.free 7 _ rfl) (by decide +kernel) (pa_cons (pv 0) pa_nil)) (nomark _)) (pss_one (ps_par (i := 1) (j := 2) rfl sc__is_nilpotent.nd rfl rfl (by decide) rfl rfl (pa_cons (pe_dfK (d_product C) rfl rfl rfl rfl rfl hr (by rfl) (pa_cons (pv 1) (pa_cons (pv 1) pa_nil))) (pa_cons (pe_op (op_timesK K rfl) pe_int (pv 2)) pa_nil)) (by rfl))))
  (pss_one (ps_ret (pe_callB (cr_allK K rfl rfl) (by rfl) (C.free 1 _ rfl) (by decide +kernel) (pa_cons (pe_lc2 (vs1 := [4]) rfl sc__is_nilpotent.nd (pi_seqK K rfl (pv 1)) (blkOk_by (own := [("row", 3), ("x", 4)]) (by kernel_rfl)) (by decide) (fun _ _ _ _ _ => (pg_name (i := 3) sc__is_nilpotent.nd rfl (by first | exact Or.inl rfl | exact Or.inr rfl))) (fun _ _ _ _ _ => pts_nil) (fun _ _ _ _ _ => (pi_seqK K rfl (pv 3))) (fun _ _ _ _ _ => (pg_name (i := 4) sc__is_nilpotent.nd rfl (by first | exact Or.inl rfl | exact Or.inr rfl))) (fun _ _ _ _ _ => pts_nil) (fun _ _ _ _ _ => (pe_cmpR (op_eqK K rfl hr.units) (pv 4) (pe_cstK K rfl (by rfl) (C.cst 3 _ rfl)) (nomark _)))) pa_nil)))))), ?_⟩
  · rintro _ _ ⟨N, rfl, hN, h0, rfl⟩
    rfl
  · rintro _ _ ⟨N, rfl, hN, h0, rfl⟩
    let ρ : Mx → Nat → List Sl := fun M k => [.dat (mt N), .dat (mt M), .dat (.int (k : Nat)), .any, .any]
    refine std_seq (ρ1 := ρ N 1) (std_par (d1 := mt N) (d2 := .int ((1 : Nat) : Int)) (evds_cons (evd_var rfl) (evds_cons evd_int evds_nil))) ?_
    have tst : ∀ M k, TeD T K (tTest (tOp (rI0 fun i j => .bl (decide (i < j))) (tVar 2) (tCB (rLenS K) (tCons (tVar 0) tNil)))) (ρ M k) (decide (((k : Nat) : Int) < 2)) := fun M k => TeD.is (ted_test (evd_op (evd_var rfl) (evd_cb (evds_cons (evd_var (i := 0) rfl) evds_nil) len_T) lt_intD)) rfl
    refine std_seq (ρ1 := ρ ((0, 0), (0, 0)) 2) (std_wh (.more (TeD.is (tst N 1) rfl) ?_ (.stop (TeD.is (tst _ 2) rfl)))) ?_
    · have := std_par (T := T) (K := K) (ρ := ρ N 1) (i := 1) (j := 2) (evds_cons (evd_call (E := E0) (evds_cons (evd_var (i := 1) rfl) (evds_cons (evd_var (i := 1) rfl) evds_nil)) (c_prod hN hN)) (evds_cons (evd_op (evd_int (i := 2)) (evd_var (i := 2) rfl) (times_int (sm_mul (i := 2) (j := ((1 : Nat) : Int)) (a := 2) (b := 2) (by decide) (by decide)))) evds_nil))
      rw [h0] at this
      exact this
    · refine std_ret (EvD.is (evd_cb (evds_cons (EvF.is (evf_lc2 (js := [3]) (js1 := [4]) [[.bool true, .bool true], [.bool true, .bool true]] (itd_T (ds := [vt (0, 0), vt (0, 0)]) (evd_var rfl)) (by decide) (by decide) rfl (Nat.le_of_ble_eq_true rfl) fun i d es hd he => ?_) (rfl : _ = [true, true, true, true].map PyData.bool)).ev evds_nil) all_D) rfl)
      have z : ∀ (ρ2 : List Sl), ρ2[4]? = some (.dat (fr 0)) → EvD T K (tOp (rEqD K) (tVar 4) (tCst K (fr 0))) ρ2 (.bool true) := fun ρ2 h => EvD.is (evd_op (evd_var h) evd_cst (eq_D (fr_shaped _) (fr_shaped _))) (by rw [fr_eqv]; simp)
      have hb : d = vt (0, 0) ∧ es = [.bool true, .bool true] := by
        match i, hd, he with
        | 0, hd, he => cases hd; cases he; exact ⟨rfl, rfl⟩
        | 1, hd, he => cases hd; cases he; exact ⟨rfl, rfl⟩
        | _ + 2, hd, he => cases hd
      obtain ⟨rfl, rfl⟩ := hb
      refine ⟨_, [fr 0, fr 0], tgd_name, rfl, itd_T (evd_var rfl), rfl, fun k dk ek hk he2 => ?_⟩
      match k, hk, he2 with
      | 0, hk, he2 => cases hk; cases he2; exact ⟨_, tgd_name, z _ rfl⟩
      | 1, hk, he2 => cases hk; cases he2; exact ⟨_, tgd_name, z _ rfl⟩
      | _ + 2, hk, he2 => cases hk
theorem c_nilp {N : Mx} (h1 : SmM 5 N) (h2 : mmM N N = ((0, 0), (0, 0))) : fNilp [mt N] (.bool true) := ⟨N, rfl, h1, h2, rfl⟩
theorem all_map {n : Nat} : (List.replicate n true).all id = true := by induction n with
  | zero => rfl
  | succ n ih => rw [List.replicate_succ, List.all_cons, ih]; rfl
theorem pt_shaped {Ns : List Mx} : SeqAt.shaped (pt Ns) = true := by
  have h1 : PyData.canLayAll0 (Ns.map mt) = true := lay0_map mt (fun x => by simp [mt, vt, fr, PyData.canLay0, PyData.canLayAll0]) Ns
  have h2 : PyData.depthAll (Ns.map mt) ≤ 3 := depth_map mt (fun x => by simp [mt, vt, fr, PyData.depth, PyData.depthAll]) Ns
  simp [SeqAt.shaped, pt, PyData.canLay0, PyData.depth, h1]
  omega
theorem sc_is_push : FnScope ["thing", "size", "matrix", "own"] ["thing"] (defScope (top 54)) := ⟨rfl, rfl, rfl, by decide +kernel, rfl, by decide +kernel, by decide +kernel⟩
theorem d_is_push (C : CT P w K mg base T) : Df P w K mg base "is_push" 12 ["thing"] (spF T K fIsPush) := by
  refine df_of C (i := 37) (x := "is_push") (N := ["thing", "size", "matrix", "own"]) (n := 3) rfl sc_is_push (fun _ _ _ _ _ _ us hl => match us, hl with | [_], _ => rfl) ?_ rfl fun cdv A outer s H E fa hr => ⟨_, (pss_cons (ps_if (PW.pt (pw_or (pt_not (pt_val (pe_callB (call_isiK1 K rfl) (by rfl) (C.free 6 _ rfl) (by decide +kernel) (pa_cons (pv 0) (pa_cons (pe_bltn (v := .ty "tuple") (by rfl) (C.free 16 _ rfl) (by decide +kernel) rfl) pa_nil))))) (pw_or (pt_cmpR (op_eqK K rfl hr.units) (pv 0) (pe_tup pa_nil) (nomark _)) (pw_or (pt_not (pt_val (pe_callB (call_isiK1 K rfl) (by rfl) (C.free 6 _ rfl) (by decide +kernel) (pa_cons (pe_ix (ix_seqK K rfl) (pv 0) pe_int (fun _ _ => rfl)) (pa_cons (pe_bltn (v := .ty "tuple") (by rfl) (C.free 16 _ rfl) (by decide +kernel) rfl) pa_nil))))) (pw_or1 (pt_cmpR (op_eqK K rfl hr.units) (pe_ix (ix_seqK K rfl) (pv 0) pe_int (fun _ _ => rfl)) (pe_tup pa_nil) (nomark _))))))) (pss_one (ps_ret pe_bl)) pss_nil)
  (pss_cons (ps_set (i := 1) sc_is_push.nd rfl (by first | exact Or.inl rfl | exact Or.inr rfl) (pe_callB (call_lenK K rfl) (by rfl) (C.free 7 _ rfl) (by decide +kernel) (pa_cons (pe_ix (ix_seqK K rfl) (pv 0) pe_int (fun _ _ => rfl)) pa_nil)))
  (pss_one (ps_ret (pe_and (pe_callB (cr_allK K rfl rfl) (by rfl) (C.free 1 _ rfl) (by decide +kernel) (pa_cons (pe_lc rfl sc_is_push.nd (pi_seqK K rfl (pv 0)) (blkOk_by (own := [("matrix", 2)]) (by kernel_rfl)) (fun _ _ _ _ _ => (pg_name (i := 2) sc_is_push.nd rfl (by first | exact Or.inl rfl | exact Or.inr rfl))) (fun _ _ _ _ _ => pts_nil) (fun _ _ _ _ _ => (pe_dfK (d_is_matrix C) rfl rfl rfl rfl rfl hr (by rfl) (pa_cons (pv 2) (pa_cons (pv 1) (pa_cons (pv 1) pa_nil)))))) pa_nil)) (pe_one (pe_callB (cr_allK K rfl rfl) (by rfl) (C.free 1 _ rfl) (by decide +kernel) (pa_cons (pe_lc rfl sc_is_push.nd (pi_seqK K rfl (pv 0)) (blkOk_by (own := [("own", 3)]) (by kernel_rfl)) (fun _ _ _ _ _ => (pg_name (i := 3) sc_is_push.nd rfl (by first | exact Or.inl rfl | exact Or.inr rfl))) (fun _ _ _ _ _ => pts_nil) (fun _ _ _ _ _ => (pe_dfK (d_is_nilpotent C) rfl rfl rfl rfl rfl hr (by rfl) (pa_cons (pv 3) pa_nil)))) pa_nil)))))))), ?_⟩
  · rintro _ _ ⟨Ns, rfl, h0, hf, hN, rfl⟩
    rfl
  · rintro _ _ ⟨Ns, rfl, h0, hf, hN, rfl⟩
    obtain ⟨M, Ms, rfl⟩ : ∃ M Ms, Ns = M :: Ms := by
      cases Ns with
      | nil => cases h0
      | cons M Ms => exact ⟨M, Ms, rfl⟩
    have at0 : atI ((M :: Ms).map mt) 0 = some (mt M) := at_nat (k := 0) rfl
    have n1 : PyData.eqv (pt (M :: Ms)) (.tuple []) = false := rfl
    have n2 : PyData.eqv (mt M) (.tuple []) = false := rfl
    have ms : SeqAt.shaped (mt M) = true := by simp [SeqAt.shaped, mt, vt, fr, PyData.canLay0, PyData.canLayAll0, PyData.depth, PyData.depthAll]
    have e0 : EvD T K (tOp (rIx K) (tVar 0) (tC (.int 0))) [.dat (pt (M :: Ms)), .any, .any, .any] (mt M) := evd_op (evd_var rfl) evd_int (ix_tupD at0)
    refine std_seq (std_if (x := false) (TeD.is (x := !true || (PyData.eqv (pt (M :: Ms)) (.tuple []) || (!true || PyData.eqv (mt M) (.tuple [])))) (ted_or (ted_not (ted_B (evd_isi (evd_var rfl) kit2.2.2.2.2))) fun _ => ted_or (ted_test (evd_op (evd_var rfl) (evd_tup evds_nil (Nat.zero_le _)) (eq_D pt_shaped rfl))) fun _ => ted_or (ted_not (ted_B (evd_isi e0 kit2.2.2.2.2))) fun _ => ted_test (evd_op e0 (evd_tup evds_nil (Nat.zero_le _)) (eq_D ms rfl))) (by rw [n1, n2]; rfl)) (fun h => by cases h) fun _ => std_next) ?_
    refine std_seq (std_asg (d := .int 2) (EvD.is (evd_cb (evds_cons e0 evds_nil) len_T) rfl)) ?_
    have lst : ∀ (js : List Nat) (j : Nat) (te : TE), js = [j] → (∀ N ∈ M :: Ms, EvD T K te ((wipeL [.dat (pt (M :: Ms)), .dat (.int 2), .any, .any] [j]).set j (.dat (mt N))) (.bool true)) → EvD T K (tCB (rAll K) (tCons (tLc (iSeq K (tVar 0)) (gName j) tYes te [j]) tNil)) [.dat (pt (M :: Ms)), .dat (.int 2), .any, .any] (.bool true) := fun js j te hj hte => by
      refine EvD.is (evd_cb (evds_cons (EvF.is (evf_lc (js := [j]) ((List.replicate (M :: Ms).length true).map PyData.bool) (itd_T (ds := (M :: Ms).map mt) (evd_var rfl)) (by simp) (by simp) (by simp at hf ⊢; omega) fun i d e hd he => ?_) rfl).ev evds_nil) all_D) (by rw [all_map])
      rw [List.getElem?_map] at hd he
      cases hN2 : (M :: Ms)[i]? with
      | none => rw [hN2] at hd; cases hd
      | some N =>
        rw [hN2] at hd
        cases hd
        rw [List.getElem?_replicate, if_pos (List.getElem?_eq_some_iff.mp hN2).1] at he
        cases he
        exact ⟨_, tgd_name, hte N (mem_get hN2)⟩
    refine std_ret (evd_and (x := true) (lst [2] 2 _ rfl fun N hm => ?_) (fun _ => lst [3] 3 _ rfl fun N hm => ?_) fun h => by cases h)
    · exact evd_call (evds_cons (evd_var (i := 2) rfl) (evds_cons (evd_var (i := 1) rfl) (evds_cons (evd_var (i := 1) rfl) evds_nil))) c_ismat
    · exact evd_call (evds_cons (evd_var (i := 3) rfl) evds_nil) (c_nilp (hN N hm).1 (hN N hm).2)
theorem c_ispush {Ns : List Mx} (h1 : 0 < Ns.length) (h2 : Ns.length ≤ 10) (h3 : ∀ N ∈ Ns, SmM 5 N ∧ mmM N N = ((0, 0), (0, 0))) : fIsPush [pt Ns] (.bool true) := ⟨Ns, rfl, h1, h2, h3, rfl⟩
def fIsRun (ds : List PyData) (d : PyData) : Prop := ∃ (r s : Row) (Ns : List Mx) (v : Vc) (h : Rat), ds = [rw_ r, rw_ s, .tuple [pt Ns, vt v, fr h]] ∧ r.length + s.length < 60 ∧ 0 < Ns.length ∧ (∀ N ∈ Ns, SmM 5 N ∧ mmM N N = ((0, 0), (0, 0))) ∧ FlowOk Ns h r v ∧ FlowOk Ns h s v ∧ d = .bool (decide (act (flowE Ns h) r v ≠ act (flowE Ns h) s v))
theorem sc_is_parting_run : FnScope ["row", "other", "thing", "parts", "push", "state", "h", "part"] ["row", "other", "thing"] (defScope (top 67)) := ⟨rfl, rfl, rfl, by decide +kernel, rfl, by decide +kernel, by decide +kernel⟩
theorem d_is_parting_run (C : CT P w K mg base T) : Df P w K mg base "is_parting_run" 13 ["row", "other", "thing"] (spF T K fIsRun) := by
  refine df_of C (i := 50) (x := "is_parting_run") (N := ["row", "other", "thing", "parts", "push", "state", "h", "part"]) (n := 5) rfl sc_is_parting_run (fun _ _ _ _ _ _ us hl => match us, hl with | [_, _, _], _ => rfl) ?_ rfl fun cdv A outer s H E fa hr => ⟨_, (pss_cons (ps_if (PW.pt (pw_or (pt_not (pt_val (pe_dfK (d_is_tuple_of C) rfl rfl rfl rfl rfl hr (by rfl) (pa_cons (pv 2) (pa_cons pe_int pa_nil))))) (pw_or (pt_not (pt_val (pe_dfK (d_is_push C) rfl rfl rfl rfl rfl hr (by rfl) (pa_cons (pe_ix (ix_seqK K rfl) (pv 2) pe_int (fun _ _ => rfl)) pa_nil)))) (pw_or1 (pt_not (pt_val (pe_dfK (d_is_fraction C) rfl rfl rfl rfl rfl hr (by rfl) (pa_cons (pe_ix (ix_seqK K rfl) (pv 2) pe_int (fun _ _ => rfl)) pa_nil)))))))) (pss_one (ps_ret pe_bl)) pss_nil)
  (pss_cons (ps_asg (pv 2) (pg_tupK K rfl (n := 3) rfl (pgs_cons (pg_name (i := 4) sc_is_parting_run.nd rfl (by first | exact Or.inl rfl | exact Or.inr rfl)) (pgs_cons (pg_name (i := 5) sc_is_parting_run.nd rfl (by first | exact Or.inl rfl | exact Or.inr rfl)) (pgs_cons (pg_name (i := 6) sc_is_parting_run.nd rfl (by first | exact Or.inl rfl | exact Or.inr rfl)) pgs_nil)))))
  (pss_cons (ps_set (i := 3) sc_is_parting_run.nd rfl (by first | exact Or.inl rfl | exact Or.inr rfl) (pe_dfK (d_parts_in C) rfl rfl rfl rfl rfl hr (by rfl) (pa_cons (pe_op (op_plusK K rfl) (pe_dfK (d_tuple_of C) rfl rfl rfl rfl rfl hr (by rfl) (pa_cons (pv 0) pa_nil)) (pe_dfK (d_tuple_of C) rfl rfl rfl rfl rfl hr (by rfl) (pa_cons (pv 1) pa_nil))) pa_nil)))
  (pss_cons (ps_if (PW.pt (pw_or (pt_not (pt_val (pe_dfK (d_is_row C) rfl rfl rfl rfl rfl hr (by rfl) (pa_cons (pv 5) (pa_cons (pe_callB (call_lenK K rfl) (by rfl) (C.free 7 _ rfl) (by decide +kernel) (pa_cons (pe_ix (ix_seqK K rfl) (pv 4) pe_int (fun _ _ => rfl)) pa_nil)) pa_nil))))) (pw_or1 (pt_val (pe_callB (cr_anyK K rfl rfl) (by rfl) (C.free 2 _ rfl) (by decide +kernel) (pa_cons (pe_lc rfl sc_is_parting_run.nd (pi_seqK K rfl (pv 3)) (blkOk_by (own := [("part", 7)]) (by kernel_rfl)) (fun _ _ _ _ _ => (pg_name (i := 7) sc_is_parting_run.nd rfl (by first | exact Or.inl rfl | exact Or.inr rfl))) (fun _ _ _ _ _ => pts_nil) (fun _ _ _ _ _ => (pe_cmpR op_ge (pv 7) (pe_callB (call_lenK K rfl) (by rfl) (C.free 7 _ rfl) (by decide +kernel) (pa_cons (pv 4) pa_nil)) (nomark _)))) pa_nil)))))) (pss_one (ps_ret pe_bl)) pss_nil)
  (pss_one (ps_ret (pe_cmpR (op_neK K rfl hr.units) (pe_dfK (d_flow_at C) rfl rfl rfl rfl rfl hr (by rfl) (pa_cons (pv 0) (pa_cons (pv 4) (pa_cons (pv 6) (pa_cons (pv 5) pa_nil))))) (pe_dfK (d_flow_at C) rfl rfl rfl rfl rfl hr (by rfl) (pa_cons (pv 1) (pa_cons (pv 4) (pa_cons (pv 6) (pa_cons (pv 5) pa_nil))))) (nomark _)))))))), ?_⟩
  · rintro _ _ ⟨r, s, Ns, v, h, rfl, hl, h0, hN, okr, oks, rfl⟩
    rfl
  · rintro _ _ ⟨r, s, Ns, v, h, rfl, hl, h0, hN, okr, oks, rfl⟩
    have l1 : r.length ≤ 1000 := by omega
    have l2 : s.length ≤ 1000 := by omega
    have few := okr.few
    have a0 : atI [pt Ns, vt v, fr h] 0 = some (pt Ns) := rfl
    have a2 : atI [pt Ns, vt v, fr h] 2 = some (fr h) := rfl
    have at0 : atI (Ns.map mt) 0 = some (mt (nm Ns 0)) := nm_get (by decide) h0
    refine std_seq (std_if (x := false) (TeD.is (x := !true || (!true || !true)) (ted_or (ted_not (ted_B (evd_call (evds_cons (evd_var (i := 2) rfl) (evds_cons evd_int evds_nil)) (c_istup (k := 3) rfl)))) fun _ => ted_or (ted_not (ted_B (evd_call (evds_cons (evd_op (evd_var (i := 2) rfl) evd_int (ix_tupD a0)) evds_nil) (c_ispush h0 few hN)))) fun _ => ted_not (ted_B (evd_call (evds_cons (evd_op (evd_var (i := 2) rfl) evd_int (ix_tupD a2)) evds_nil) c_isfr))) rfl) (fun h => by cases h) fun _ => std_next) ?_
    refine std_seq (std_asgG (evd_var (i := 2) rfl) (tgd_tup3 tgd_name tgd_name tgd_name)) ?_
    let ρ : Sl → List Sl := fun p => [.dat (rw_ r), .dat (rw_ s), .dat (.tuple [pt Ns, vt v, fr h]), p, .dat (pt Ns), .dat (vt v), .dat (fr h), .any]
    have pe : EvD T K (tCall (spF T K fParts) [] E0 (tCons (tOp (rPlus K) (tCall (spF T K (fTupleOf 7)) [] E0 (tCons (tVar 0) tNil)) (tCall (spF T K (fTupleOf 7)) [] E0 (tCons (tVar 1) tNil))) tNil)) (ρ .any) (.list ((partsI (r ++ s)).map .int)) := by
      refine evd_call (evds_cons (EvD.is (evd_op (evd_call (evds_cons (evd_var rfl) evds_nil) (c_tuple_of_row l1)) (evd_call (evds_cons (evd_var rfl) evds_nil) (c_tuple_of_row l2)) (plus_tup (by simp; omega))) ?_) evds_nil) (c_parts (r := r ++ s) (by rw [List.length_append]; omega))
      show PyData.tuple (r.map pr ++ s.map pr) = PyData.tuple ((r ++ s).map pr)
      rw [List.map_append]
    refine std_seq (ρ1 := ρ (.dat (.list ((partsI (r ++ s)).map .int)))) (std_asg pe) ?_
    have pin : ∀ p ∈ partsI (r ++ s), p < (Ns.length : Int) := fun p hp => by
      have := mem_sortU.mp hp
      obtain ⟨q, hq, rfl⟩ := List.mem_map.mp this
      rcases List.mem_append.mp hq with z | z
      · have := okr.parts q z; omega
      · have := oks.parts q z; omega
    have plen : (partsI (r ++ s)).length ≤ 10000 := by
      have insl : ∀ (k : Int) (l : List Int), (insU k l).length ≤ l.length + 1 := fun k l => by
        induction l with
        | nil => simp [insU]
        | cons x l ih =>
          rw [insU]
          split
          · simp
          · split
            · simp
            · (simp only [List.length_cons]; omega)
      have : ∀ l : List Int, (sortU l).length ≤ l.length := fun l => by
        induction l with
        | nil => exact Nat.le_refl _
        | cons x l ih => rw [sortU]; have := insl x (sortU l); simp only [List.length_cons]; omega
      have := this ((r ++ s).map (·.1))
      unfold partsI
      simp only [List.length_map, List.length_append] at this
      omega
    have anyF : ∀ n : Nat, (List.replicate n false).any id = false := fun n => by
      induction n with
      | zero => rfl
      | succ n ih => rw [List.replicate_succ, List.any_cons, ih]; rfl
    have none_ : EvD T K (tCB (rAny K) (tCons (tLc (iSeq K (tVar 3)) (gName 7) tYes (tOp (rI0 fun i j => .bl (decide (j ≤ i))) (tVar 7) (tCB (rLenS K) (tCons (tVar 4) tNil))) [7]) tNil)) (ρ (.dat (.list ((partsI (r ++ s)).map .int)))) (.bool false) := by
      refine EvD.is (evd_cb (evds_cons (EvF.is (evf_lc (js := [7]) ((List.replicate (partsI (r ++ s)).length false).map PyData.bool) (itd_L (ds := (partsI (r ++ s)).map .int) (evd_var rfl)) (by decide) (by simp) (by simpa using plen) fun i d e hd he => ?_) rfl).ev evds_nil) any_D) (by rw [anyF])
      rw [List.getElem?_map] at hd he
      cases hp : (partsI (r ++ s))[i]? with
      | none => rw [hp] at hd; cases hd
      | some p =>
        rw [hp] at hd
        cases hd
        rw [List.getElem?_replicate, if_pos (List.getElem?_eq_some_iff.mp hp).1] at he
        cases he
        have := pin p (mem_get hp)
        exact ⟨_, tgd_name, EvD.is (evd_op (evd_var rfl) (evd_cb (evds_cons (evd_var (i := 4) rfl) evds_nil) len_T) ge_intD) (by rw [List.length_map, decide_eq_false (by omega)])⟩
    refine std_seq (std_if (x := false) (TeD.is (x := !true || false) (ted_or (ted_not (ted_B (evd_call (evds_cons (evd_var (i := 5) rfl) (evds_cons (EvD.is (evd_cb (evds_cons (evd_op (evd_var (i := 4) rfl) evd_int (ix_tupD at0)) evds_nil) len_T) rfl) evds_nil)) c_isrow))) fun _ => ted_B none_) rfl) (fun h => by cases h) fun _ => std_next) ?_
    refine std_ret (EvD.is (evd_op (evd_call (evds_cons (evd_var rfl) (evds_cons (evd_var rfl) (evds_cons (evd_var rfl) (evds_cons (evd_var rfl) evds_nil)))) (c_flow_at okr)) (evd_call (evds_cons (evd_var rfl) (evds_cons (evd_var rfl) (evds_cons (evd_var rfl) (evds_cons (evd_var rfl) evds_nil)))) (c_flow_at oks)) (ne_D (vt_shaped _) (vt_shaped _))) ?_)
    rw [vt_eqv]; simp
end
end K37
namespace K37
open PySem PySem.Spec L2
local macro_rules | `(tactic| walk_at "sz") => `(tactic| first | assumption | decide | omega)
local macro_rules | `(tactic| walk_at "call") => `(tactic| fail "no call")
local macro_rules | `(tactic| walk_at "cb") => `(tactic| first
  | with_reducible exact gcd_D | with_reducible exact len_T | with_reducible exact len_L | with_reducible exact tuple_L | with_reducible exact tuple_T | with_reducible exact max_D | with_reducible exact min_D | with_reducible exact abs_D
  | with_reducible exact int_D | with_reducible exact int_B)
local macro_rules | `(tactic| walk_at "op") => `(tactic| first
  | with_reducible exact minus_int | with_reducible exact plus_int | ((with_reducible apply times_int); walk_at "sz") | ((with_reducible apply ix_tupD); exact rfl) | ((with_reducible apply ix_lstD); exact rfl)
  | with_reducible exact lt_intD | with_reducible exact le_intD | with_reducible exact gt_intD | with_reducible exact ge_intD
  | ((with_reducible apply eq_D) <;> first | exact rfl | exact fr_shaped _ | assumption) | ((with_reducible apply ne_D) <;> first | exact rfl | exact fr_shaped _ | assumption)
  | ((with_reducible apply fdiv_int); walk_at "sz") | ((with_reducible apply fmod_int); walk_at "sz")
  | ((with_reducible apply plus_tup); walk_at "sz") | ((with_reducible apply plus_lst); walk_at "sz"))
local macro_rules | `(tactic| walk_at "evs") => `(tactic| first
  | with_reducible exact evds_nil
  | ((with_reducible apply evds_cons); (· walk_at "ev"); (· walk_at "evs")))
local macro_rules | `(tactic| walk_at "ev") => `(tactic| first
  | assumption
  | ((with_reducible apply evd_var); exact rfl)
  | with_reducible exact evd_int | with_reducible exact evd_cst | with_reducible exact evd_non | with_reducible exact evd_bl
  | ((with_reducible apply evd_op); (· walk_at "ev"); (· walk_at "ev"); (· walk_at "op"))
  | ((with_reducible apply evd_un); (· walk_at "ev"); (· with_reducible exact neg_intD))
  | ((with_reducible apply evd_call); (· walk_at "evs"); (· walk_at "call"))
  | ((with_reducible apply evd_cb); (· walk_at "evs"); (· walk_at "cb"))
  | ((with_reducible apply evd_tup); (· walk_at "evs"); (· exact Nat.le_of_ble_eq_true rfl))
  | ((with_reducible apply evd_isN); walk_at "ev") | ((with_reducible apply evd_notN); walk_at "ev")
  | ((with_reducible apply evd_not); walk_at "ev"))
local macro_rules | `(tactic| walk_at "te") => `(tactic| first
  | ((with_reducible apply ted_test); walk_at "ev") | ((with_reducible apply ted_B); walk_at "ev") | ((with_reducible apply ted_not); walk_at "te"))

def fLow (ds : List PyData) (d : PyData) : Prop := ∃ a b : Int, ds = [.int a, .int b] ∧ b ≠ 0 ∧ b.natAbs < 2 ^ 8002 ∧ d = fr (Rat.divInt a b)
section
variable {P : Program} {w : World} {K : PySem.W.Frag} {mg : Str → Option Value} {base : Heap} {T : Tb}
theorem sc__law_low : FnScope ["_law_top_so", "_law_down_so", "_law_near", "_law_far"] ["_law_top_so", "_law_down_so"] (defScope (top 74)) := ⟨rfl, rfl, rfl, by decide +kernel, rfl, by decide +kernel, by decide +kernel⟩
theorem d_law_low (C : CT P w K mg base T) : Df P w K mg base "_law_low" 1 ["_law_top_so", "_law_down_so"] (spF T K fLow) := by
  refine df_of C (i := 56) (x := "_law_low") (N := ["_law_top_so", "_law_down_so", "_law_near", "_law_far"]) (n := 2) rfl sc__law_low (fun _ _ _ _ _ _ us hl => match us, hl with | [_, _], _ => rfl) ?_ rfl fun cdv A outer s H E fa hr => ⟨_, (pss_cons (ps_par (i := 2) (j := 3) rfl sc__law_low.nd rfl rfl (by decide) rfl rfl (pa_cons (pe_callB call_abs (by rfl) (C.free 0 _ rfl) (by decide +kernel) (pa_cons (pv 0) pa_nil)) (pa_cons (pe_callB call_abs (by rfl) (C.free 0 _ rfl) (by decide +kernel) (pa_cons (pv 1) pa_nil)) pa_nil)) (by rfl))
  (pss_cons (ps_while PassesOwn.never (pt_cmpR op_gt (pv 3) pe_int (nomark _)) (pss_one (ps_par (i := 2) (j := 3) rfl sc__law_low.nd rfl rfl (by decide) rfl rfl (pa_cons (pv 3) (pa_cons (pe_op op_modN (pe_callTy call_int1 (by rfl) (C.free 5 _ rfl) (by decide +kernel) (pa_cons (pv 2) pa_nil)) (pv 3)) pa_nil)) (by rfl))))
  (pss_cons (ps_if (pt_cmpR op_lt (pv 1) pe_int (nomark _)) (pss_one (ps_set (i := 2) sc__law_low.nd rfl (by first | exact Or.inl rfl | exact Or.inr rfl) (pe_op op_sub pe_int (pv 2)))) pss_nil)
  (pss_one (ps_ret (pe_tup (pa_cons (pe_op op_fdivZ (pv 0) (pv 2)) (pa_cons (pe_op op_fdivZ (pv 1) (pv 2)) pa_nil)))))))), ?_⟩
  · rintro _ _ ⟨a, b, rfl, hb, hs, rfl⟩
    rfl
  · rintro _ _ ⟨a, b, rfl, hb, hs, rfl⟩
    have hg0 : 0 < Nat.gcd a.natAbs b.natAbs := Nat.gcd_pos_of_pos_right _ (by omega)
    have hgb : Nat.gcd a.natAbs b.natAbs ≤ b.natAbs := Nat.le_of_dvd (by omega) (Nat.gcd_dvd_right _ _)
    have hc : ∀ x : Int, CDivZ x (if b < 0 then -((Nat.gcd a.natAbs b.natAbs : Nat) : Int) else ((Nat.gcd a.natAbs b.natAbs : Nat) : Int)) := fun x => by
      refine ⟨by split <;> omega, ?_⟩
      have e : (if b < 0 then -((Nat.gcd a.natAbs b.natAbs : Nat) : Int) else ((Nat.gcd a.natAbs b.natAbs : Nat) : Int)).natAbs = Nat.gcd a.natAbs b.natAbs := by split <;> omega
      rw [e]
      have : Nat.gcd a.natAbs b.natAbs < 2 ^ 8002 := Nat.lt_of_le_of_lt hgb hs
      have := PySem.Flt.log2_lt_of (by decide) this
      omega
    let ρ : Nat → Nat → List Sl := fun m n => [.dat (.int a), .dat (.int b), .dat (.int m), .dat (.int n)]
    refine std_seq (ρ1 := ρ a.natAbs b.natAbs) (std_par (d1 := .int a.natAbs) (d2 := .int b.natAbs) (by walk_at "evs")) ?_
    have lp : ∀ n m : Nat, Wh T K (tTest (tOp (rI0 fun i j => .bl (decide (j < i))) (tVar 3) (tC (.int 0)))) (tPar 2 3 (tCons (tVar 3) (tCons (tOp (rI (fun _ j => j ≠ 0) fun i j => .int (i.fmod j)) (tCB (fun xs H Q => (∃ i, xs = [V.int i] ∧ Q (.int i) H) ∨ ∃ k, xs = [V.bl k] ∧ Q (.int (if k = true then 1 else 0)) H) (tCons (tVar 2) tNil)) (tVar 3)) tNil))) (ρ m n) (ρ (Nat.gcd m n) 0) := fun n => by induction n using Nat.strongRecOn with
      | _ n ih =>
        intro m
        by_cases z : n = 0
        · subst z
          rw [Nat.gcd_zero_right]
          exact .stop (TeD.is (ted_test (evd_op (evd_var rfl) evd_int gt_intD)) (by decide))
        · have e : Nat.gcd m n = Nat.gcd n (m % n) := by rw [Nat.gcd_comm m n, Nat.gcd_rec n m, Nat.gcd_comm]
          have ef : ((m : Int)).fmod (n : Int) = ((m % n : Nat) : Int) := by
            rw [Int.fmod_eq_emod_of_nonneg _ (by omega)]; rfl
          rw [e]
          refine .more (ρ1 := ρ n (m % n)) (TeD.is (ted_test (evd_op (evd_var rfl) evd_int gt_intD)) (decide_eq_true (by omega))) ?_ (ih (m % n) (Nat.mod_lt _ (by omega)) n)
          refine std_par (d1 := .int n) (d2 := .int ((m % n : Nat) : Int)) (evds_cons (evd_var rfl) (evds_cons (EvD.is (evd_op (evd_cb (evds_cons (evd_var rfl) evds_nil) int_D) (evd_var rfl) (fmod_int (by omega))) (by rw [ef])) evds_nil))
    refine std_seq (std_wh (lp _ _)) ?_
    refine std_seq (ρ1 := [.dat (.int a), .dat (.int b), .dat (.int (if b < 0 then -((Nat.gcd a.natAbs b.natAbs : Nat) : Int) else ((Nat.gcd a.natAbs b.natAbs : Nat) : Int))), .dat (.int (0 : Nat))]) (std_if (x := decide (b < 0)) (by walk_at "te") (fun h => ?_) (fun h => ?_)) ?_
    · rw [if_pos (of_decide_eq_true h)]
      exact std_asg (EvD.is (evd_op evd_int (evd_var rfl) minus_int) (by rw [Int.zero_sub]))
    · rw [if_neg (of_decide_eq_false h)]
      exact std_next
    · unfold fr
      rw [← div_num hb, ← div_den hb]
      have h1 := hc a
      have h2 := hc b
      exact std_ret (by walk_at "ev")
theorem c_low {a b : Int} (h : b ≠ 0) (h2 : b.natAbs < 2 ^ 8002) : fLow [.int a, .int b] (fr (Rat.divInt a b)) := ⟨a, b, rfl, h, h2, rfl⟩
local macro_rules | `(tactic| walk_at "call") => `(tactic| ((with_reducible apply c_low) <;> walk_at "sz"))
theorem sc__law_add : FnScope ["_law_own", "_law_far"] ["_law_own", "_law_far"] (defScope (top 75)) := ⟨rfl, rfl, rfl, by decide +kernel, rfl, by decide +kernel, by decide +kernel⟩
theorem d_law_add (C : CT P w K mg base T) : Df P w K mg base "_law_add" 2 ["_law_own", "_law_far"] (spF T K fPlus) := by
  refine df_of C (i := 57) (x := "_law_add") (N := ["_law_own", "_law_far"]) (n := 0) rfl sc__law_add (fun _ _ _ _ _ _ us hl => match us, hl with | [_, _], _ => rfl) ?_ rfl fun cdv A outer s H E fa hr => ⟨_, (pss_one (ps_ret (pe_dfK (d_law_low C) rfl rfl rfl rfl rfl hr (by rfl) (pa_cons (pe_op (op_plusK K rfl) (pe_op (op_timesK K rfl) (pe_ix (ix_seqK K rfl) (pv 0) pe_int (fun _ _ => rfl)) (pe_ix (ix_seqK K rfl) (pv 1) pe_int (fun _ _ => rfl))) (pe_op (op_timesK K rfl) (pe_ix (ix_seqK K rfl) (pv 1) pe_int (fun _ _ => rfl)) (pe_ix (ix_seqK K rfl) (pv 0) pe_int (fun _ _ => rfl)))) (pa_cons (pe_op (op_timesK K rfl) (pe_ix (ix_seqK K rfl) (pv 0) pe_int (fun _ _ => rfl)) (pe_ix (ix_seqK K rfl) (pv 1) pe_int (fun _ _ => rfl))) pa_nil))))), ?_⟩
  · rintro _ _ ⟨x, y, rfl, hx, hy, rfl⟩
    rfl
  · rintro _ _ ⟨x, y, rfl, hx, hy, rfl⟩
    have s1 : CMulX x.num y.den := sm_mul hx.1 (by have := hy.2; simpa using this)
    have s2 : CMulX y.num x.den := sm_mul hy.1 (by have := hx.2; simpa using this)
    have s3 : CMulX x.den y.den := sm_mul (i := x.den) (by have := hx.2; simpa using this) (by have := hy.2; simpa using this)
    have s4 := sm_den hx hy
    have s5 : (x.den : Int) * y.den ≠ 0 := den_ne
    rw [← rat_plus]
    exact std_ret (by walk_at "ev")
theorem sc__law_mul : FnScope ["_law_own", "_law_far"] ["_law_own", "_law_far"] (defScope (top 76)) := ⟨rfl, rfl, rfl, by decide +kernel, rfl, by decide +kernel, by decide +kernel⟩
theorem d_law_mul (C : CT P w K mg base T) : Df P w K mg base "_law_mul" 2 ["_law_own", "_law_far"] (spF T K fTimes) := by
  refine df_of C (i := 58) (x := "_law_mul") (N := ["_law_own", "_law_far"]) (n := 0) rfl sc__law_mul (fun _ _ _ _ _ _ us hl => match us, hl with | [_, _], _ => rfl) ?_ rfl fun cdv A outer s H E fa hr => ⟨_, (pss_one (ps_ret (pe_dfK (d_law_low C) rfl rfl rfl rfl rfl hr (by rfl) (pa_cons (pe_op (op_timesK K rfl) (pe_ix (ix_seqK K rfl) (pv 0) pe_int (fun _ _ => rfl)) (pe_ix (ix_seqK K rfl) (pv 1) pe_int (fun _ _ => rfl))) (pa_cons (pe_op (op_timesK K rfl) (pe_ix (ix_seqK K rfl) (pv 0) pe_int (fun _ _ => rfl)) (pe_ix (ix_seqK K rfl) (pv 1) pe_int (fun _ _ => rfl))) pa_nil))))), ?_⟩
  · rintro _ _ ⟨x, y, rfl, hx, hy, rfl⟩
    rfl
  · rintro _ _ ⟨x, y, rfl, hx, hy, rfl⟩
    have s1 : CMulX x.num y.num := sm_mul hx.1 hy.1
    have s3 : CMulX x.den y.den := sm_mul (i := x.den) (by have := hx.2; simpa using this) (by have := hy.2; simpa using this)
    have s4 := sm_den hx hy
    have s5 : (x.den : Int) * y.den ≠ 0 := den_ne
    rw [← rat_times]
    exact std_ret (by walk_at "ev")
theorem sc__law_undone : FnScope ["_law_row_so", "_law_part", "_law_much_here"] ["_law_row_so"] (defScope (top 78)) := ⟨rfl, rfl, rfl, by decide +kernel, rfl, by decide +kernel, by decide +kernel⟩
theorem d_law_undone (C : CT P w K mg base T) : Df P w K mg base "_law_undone" 1 ["_law_row_so"] (spF T K fTurned) := by
  refine df_of C (i := 60) (x := "_law_undone") (N := ["_law_row_so", "_law_part", "_law_much_here"]) (n := 2) rfl sc__law_undone (fun _ _ _ _ _ _ us hl => match us, hl with | [_], _ => rfl) ?_ rfl fun cdv A outer s H E fa hr => ⟨_, (pss_one (ps_ret (pe_callTy (call_tupleK K rfl) (by rfl) (C.free 16 _ rfl) (by decide +kernel) (pa_cons (pe_lc rfl sc__law_undone.nd (pi_seqK K rfl (pe_revT K rfl (pv 0))) (blkOk_by (own := [("_law_part", 1), ("_law_much_here", 2)]) (by kernel_rfl)) (fun _ _ _ _ _ => (pg_tupK K rfl (n := 2) rfl (pgs_cons (pg_name (i := 1) sc__law_undone.nd rfl (by first | exact Or.inl rfl | exact Or.inr rfl)) (pgs_cons (pg_name (i := 2) sc__law_undone.nd rfl (by first | exact Or.inl rfl | exact Or.inr rfl)) pgs_nil)))) (fun _ _ _ _ _ => pts_nil) (fun _ _ _ _ _ => (pe_tup (pa_cons (pv 1) (pa_cons (pe_tup (pa_cons (pe_op op_sub pe_int (pe_ix (ix_seqK K rfl) (pv 2) pe_int (fun _ _ => rfl))) (pa_cons (pe_ix (ix_seqK K rfl) (pv 2) pe_int (fun _ _ => rfl)) pa_nil))) pa_nil))))) pa_nil)))), ?_⟩
  · rintro _ _ ⟨r, rfl, hl, hs, rfl⟩
    rfl
  · rintro _ _ ⟨r, rfl, hl, hs, rfl⟩
    have ec : rw_ (turnR r) = .tuple ((turnR r).map pr) := rfl
    rw [ec]
    refine std_ret (evd_cb (evds_cons (evf_lc (js := [1, 2]) ((turnR r).map pr) (itd_T (ds := r.reverse.map pr) ?rev) (by decide) (by simp [turnR]) (by simp; omega) ?_).ev evds_nil) tuple_L)
    case rev =>
      rw [List.map_reverse]
      exact evd_revT (evd_var rfl)
    intro i d e hd he
    rw [List.getElem?_map] at hd
    rw [turnR, List.map_map, List.getElem?_map] at he
    cases hr : r.reverse[i]? with
    | none => rw [hr] at hd; cases hd
    | some p =>
      rw [hr] at hd he
      cases hd; cases he
      refine ⟨_, tgd_tup2 tgd_name tgd_name, ?_⟩
      have en : fr (-p.2) = .tuple [.int (0 - p.2.num), .int p.2.den] := by
        unfold fr
        rw [Rat.neg_num, Rat.neg_den, Int.zero_sub]
      show EvD T K _ _ (.tuple [.int p.1, fr (-p.2)])
      rw [en]
      unfold fr
      walk_at "ev"
/-- a name given to a call of the last one popped, at an index, and one more -/
theorem std_popCall {ρ : List Sl} {i j : Nat} {ds : List PyData} {k : Int} {d0 a b c : PyData} {tb : TE} {f : List PyData → PyData → Prop} {E : XK} (e : ρ[i]? = some (.own ds)) (hl0 : ds.getLast? = some d0) (hix : OpD T K (rIx K) d0 (.int k) a) (hv : EvD T K tb (ρ.set i (.own ds.dropLast)) b) (hf : f [a, b] c) : StD T K (tAsg (tCall (spF T K f) [] E (tCons (tOp (rIx K) (tBM0 K "list" rPop (tVar i)) (tC (.int k))) (tCons tb tNil))) (gName j)) ρ (.nx ((ρ.set i (.own ds.dropLast)).set j (.dat c))) := fun G0 H0 σ G H D tbs g x p => by
  obtain ⟨q, vs, e1, h0, gg, hl, qa⟩ := x.own e
  have hne : vs ≠ [] := fun z => by
    subst z
    have := List.eq_nil_of_length_eq_zero qa.length.symm
    rw [this] at hl0; cases hl0
  have hlt : vs.length - 1 < vs.length := by have := List.length_pos_iff.mpr hne; omega
  have hd : ds[vs.length - 1]? = some d0 := by rw [qa.length, ← List.getLast?_eq_getElem?]; exact hl0
  obtain ⟨v, hv1, qv⟩ := qa.get hd
  have gm := g.mut (ys := vs.dropLast) h0 gg hl
  have xm := x.mut e e1 hl qa.dropLast
  refine ⟨_, e1, .inl ⟨rfl, vs, SqL.of hl⟩, q, vs, v, rfl, rfl, hl, hv1, ?_⟩
  refine hix _ _ _ _ gm.sub (gm.tabs tbs) qv (.int k) _ fun u G2 H2 g2 q2 => ?_
  refine hv H0 G2 H2 σ g2.sub (g2.tabs (gm.tabs tbs)) (xm.gw g2) _ fun w G3 H3 g3 q3 => ?_
  refine ⟨G3, [a, b], c, g3.sub, g3.tabs (g2.tabs (gm.tabs tbs)), .cons (q2.le g3.le) (.cons q3 .nil), hf, fun y G4 H4 g4 q4 => ?_⟩
  exact p _ G4 H4 (((gm.trans g2).trans g3).trans g4) ((g2.le.trans g3.le).trans g4.le) ((((xm.gw g2).gw g3).gw g4).setDat j q4)
def fNormL (ds : List PyData) (d : PyData) : Prop := ∃ (r : Row) (N : Nat), ds = [rw_ r] ∧ RowQ N r ∧ N * 60 < 2 ^ 64 ∧ d = rw_ (nf r)
theorem c_addL {x y : Rat} (h1 : Sm 4000 x) (h2 : Sm 4000 y) : fPlus [fr x, fr y] (fr (x + y)) := ⟨x, y, rfl, h1, h2, rfl⟩
theorem any_weak4 (a b c d : Sl) : ∀ (i : Nat) (s : Sl), [a, b, Sl.any, .any][i]? = some s → s = .any ∨ [a, b, c, d][i]? = some s := fun i s h => by
  match i, h with
  | 0, h => exact .inr h
  | 1, h => exact .inr h
  | 2, h => exact .inl (Option.some.inj h).symm
  | 3, h => exact .inl (Option.some.inj h).symm
  | _ + 4, h => cases h
theorem sc__law_normal : FnScope ["_law_row_so", "_law_found", "_law_part", "_law_much_here"] ["_law_row_so"] (defScope (top 77)) := ⟨rfl, rfl, rfl, by decide +kernel, rfl, by decide +kernel, by decide +kernel⟩
theorem d_law_normal (C : CT P w K mg base T) : Df P w K mg base "_law_normal" 3 ["_law_row_so"] (spF T K fNormL) := by
  refine df_of C (i := 59) (x := "_law_normal") (N := ["_law_row_so", "_law_found", "_law_part", "_law_much_here"]) (n := 3) rfl sc__law_normal (fun _ _ _ _ _ _ us hl => match us, hl with | [_], _ => rfl) ?_ rfl fun cdv A outer s H E fa hr => ⟨_, (pss_cons (ps_set (i := 1) sc__law_normal.nd rfl (by first | exact Or.inl rfl | exact Or.inr rfl) (pe_lst pa_nil))
  (pss_cons (ps_for PassesOwn.never rfl (pi_seqK K rfl (pv 0)) (pg_tupK K rfl (n := 2) rfl (pgs_cons (pg_name (i := 2) sc__law_normal.nd rfl (by first | exact Or.inl rfl | exact Or.inr rfl)) (pgs_cons (pg_name (i := 3) sc__law_normal.nd rfl (by first | exact Or.inl rfl | exact Or.inr rfl)) pgs_nil))) (pss_cons (ps_if (PW.pt (pw_and (pt_cmpR (op_neK K rfl hr.units) (pv 1) (pe_lst pa_nil) (nomark _)) (pw_and1 (pt_cmpR (op_eqK K rfl hr.units) (pe_ix (ix_seqK K rfl) (pe_ix (ix_seqK K rfl) (pv 1) (pe_un un_neg pe_int) (fun _ _ => rfl)) pe_int (fun _ _ => rfl)) (pv 2) (nomark _))))) (pss_one (ps_set (i := 3) sc__law_normal.nd rfl (by first | exact Or.inl rfl | exact Or.inr rfl) (pe_dfK (d_law_add C) rfl rfl rfl rfl rfl hr (by rfl) (pa_cons (pe_ix (ix_seqK K rfl) (pe_bm0K K rfl PySem.F.plainAttrs_list PySem.F.slot_list_pop PySem.F.type_list_pop mt_pop (pv 1)) pe_int (fun _ _ => rfl)) (pa_cons (pv 3) pa_nil))))) pss_nil)
  (pss_one (ps_if (pt_cmpR (op_neK K rfl hr.units) (pe_ix (ix_seqK K rfl) (pv 3) pe_int (fun _ _ => rfl)) pe_int (nomark _)) (pss_one (ps_expr (pe_bmK K rfl PySem.F.plainAttrs_list PySem.F.slot_list_append PySem.F.type_list_append mt_append (pv 1) (pa_cons (pe_tup (pa_cons (pv 2) (pa_cons (pv 3) pa_nil))) pa_nil)))) pss_nil))))
  (pss_one (ps_ret (pe_callTy (call_tupleK K rfl) (by rfl) (C.free 16 _ rfl) (by decide +kernel) (pa_cons (pv 1) pa_nil)))))), ?_⟩
  · rintro _ _ ⟨r, N, rfl, hq, hN, rfl⟩
    rfl
  · rintro _ _ ⟨r, N, rfl, hq, hN, rfl⟩
    have hl := hq.1
    let ρs : Nat → List Sl := fun i => [.dat (rw_ r), .own ((stk (r.take i)).reverse.map pr), .any, .any]
    refine std_seq (ρ1 := ρs 0) (std_asgF (i := 1) (ds := []) (evf_lst evds_nil (Nat.zero_le _))) ?_
    have fin : ρs (r.map pr).length = [.dat (rw_ r), .own ((nf r).map pr), .any, .any] := by
      show [Sl.dat (rw_ r), .own ((stk (r.take (r.map pr).length)).reverse.map pr), .any, .any] = _
      rw [List.length_map, List.take_length]; rfl
    refine std_seq (ρ1 := ρs (r.map pr).length) (std_for (js := [2, 3]) ρs (itd_T (ds := r.map pr) (by walk_at "ev")) fun i d hd => ?_) ?_
    · rw [List.getElem?_map] at hd
      cases hr : r[i]? with
      | none => rw [hr] at hd; cases hd
      | some p =>
        rw [hr] at hd
        cases hd
        have hstep := snoc_take hr
        have hp : Bq 6 N p.2 := hq.2 p (List.mem_of_getElem? hr)
        have hps : Sm 4000 p.2 := q_sm hp (by omega)
        have hs := (nf_q (take_q hq i)).sm hN
        have hsl : (stk (r.take i)).length ≤ 60 := by
          have h1 := fold_len (r.take i) []
          have h2 := (take_q hq i).1
          unfold stk
          simp only [(List.length_nil)] at h1
          omega
        refine ⟨_, tgd_tup2 tgd_name tgd_name, ?_⟩
        show StD T K _ _ (.nx (ρs (i + 1)))
        have enx : ρs (i + 1) = [.dat (rw_ r), .own ((push (stk (r.take i)) p).reverse.map pr), .any, .any] := by
          show [Sl.dat (rw_ r), .own ((stk (r.take (i + 1))).reverse.map pr), .any, .any] = _
          rw [hstep]
        rw [enx]
        show StD T K _ [.dat (rw_ r), .own ((stk (r.take i)).reverse.map pr), .dat (.int p.1), .dat (fr p.2)] _
        have hsm : ∀ q ∈ stk (r.take i), Sm 4000 q.2 := fun q hq2 => hs q (List.mem_reverse.mpr hq2)
        generalize stk (r.take i) = s at *
        have lsh : SeqAt.shaped (.list (s.reverse.map pr)) = true := row_shaped s.reverse
        have ene : PyData.eqv (.list (s.reverse.map pr)) (.list []) = decide (s = []) := by
          cases s with
          | nil => rfl
          | cons q t =>
            rw [decide_eq_false (by simp)]
            have := row_eqv (q :: t).reverse []
            rw [decide_eq_false (by simp)] at this
            exact this
        have t1 : TeD T K (tTest (tOp (rNeD K) (tVar 1) (tLst tNil))) [.dat (rw_ r), .own (s.reverse.map pr), .dat (.int p.1), .dat (fr p.2)] (!decide (s = [])) :=
          TeD.is (ted_test (evd_neOwn (i := 1) rfl (evf_lst evds_nil (Nat.zero_le _)).ev lsh rfl)) (by rw [ene])
        have last : ∀ (u : Row) (y : Rat), u.length ≤ 60 → StD T K (tIfS (tTest (tOp (rNeD K) (tOp (rIx K) (tVar 3) (tC (.int 0))) (tC (.int 0)))) (tDrop (tBM K "list" rAppend (tVar 1) (tCons (tTup (tCons (tVar 2) (tCons (tVar 3) tNil))) tNil))) tNext) [.dat (rw_ r), .own (u.reverse.map pr), .dat (.int p.1), .dat (fr y)]
            (.nx [.dat (rw_ r), .own ((if y = 0 then u else (p.1, y) :: u).reverse.map pr), .any, .any]) := fun u y hu => by
          have tt : TeD T K (tTest (tOp (rNeD K) (tOp (rIx K) (tVar 3) (tC (.int 0))) (tC (.int 0)))) [.dat (rw_ r), .own (u.reverse.map pr), .dat (.int p.1), .dat (fr y)] (!decide (y = 0)) :=
            TeD.is (ted_test (evd_op (evd_op (evd_var rfl) evd_int (ix_tupD rfl)) evd_int (ne_D rfl rfl))) (by rw [eqv_int]; exact congrArg (!·) (decide_eq_decide.mpr num_zero))
          by_cases hy : y = 0
          · rw [if_pos hy]
            refine std_weakN (ρ1 := [.dat (rw_ r), .own (u.reverse.map pr), .dat (.int p.1), .dat (fr y)]) (std_if (x := false) (TeD.is tt (by rw [decide_eq_true hy]; rfl)) (fun h => by cases h) fun _ => std_next) rfl ?_
            exact any_weak4 _ _ _ _
          · rw [if_neg hy]
            refine std_weakN (ρ1 := [.dat (rw_ r), .own (u.reverse.map pr ++ [.tuple [.int p.1, fr y]]), .dat (.int p.1), .dat (fr y)]) (std_if (x := true) (TeD.is tt (by rw [decide_eq_false hy]; rfl)) (fun _ => std_app rfl (by walk_at "ev") (by simp; omega)) fun h => by cases h) rfl ?_
            rw [List.reverse_cons, List.map_append]
            exact any_weak4 _ _ _ _
        cases s with
        | nil =>
          rw [push_nil]
          exact std_seq (std_if (x := false) (TeD.is (x := false && true) (ted_and t1 fun h => by cases h) rfl) (fun h => by cases h) fun _ => std_next) (last [] p.2 hsl)
        | cons q t =>
          have ex : ((q :: t).reverse.map pr).getLast? = some (pr q) := by simp
          have t2 : TeD T K (tTest (tOp (rEqD K) (tOp (rIx K) (tOp (rIx K) (tVar 1) (tUn (rU fun i => V.int (-i)) (tC (V.int 1)))) (tC (V.int 0))) (tVar 2))) [.dat (rw_ r), .own ((q :: t).reverse.map pr), .dat (.int p.1), .dat (fr p.2)] (decide (q.1 = p.1)) :=
            TeD.is (ted_test (evd_op (evd_op (evd_ixOwn (i := 1) rfl (evd_un evd_int neg_intD) (at_last ex)) evd_int (ix_tupD rfl)) (evd_var (i := 2) rfl) (eq_D rfl rfl))) (eqv_int _ _)
          by_cases e : q.1 = p.1
          · rw [push_cons, if_pos e]
            refine std_seq (std_if (x := true) (TeD.is (x := true && decide (q.1 = p.1)) (ted_and t1 fun _ => t2) (by rw [decide_eq_true e]; rfl)) (fun _ => std_popCall (i := 1) rfl ex (ix_tupD rfl) (evd_var (i := 3) rfl) (c_addL (hsm q (by simp)) hps)) fun h => by cases h) ?_
            have ed : ((q :: t).reverse.map pr).dropLast = t.reverse.map pr := by simp
            rw [ed]
            exact last t (q.2 + p.2) (by simp at hsl ⊢; omega)
          · rw [push_cons, if_neg e]
            exact std_seq (std_if (x := false) (TeD.is (x := true && decide (q.1 = p.1)) (ted_and t1 fun _ => t2) (by rw [decide_eq_false e]; rfl)) (fun h => by cases h) fun _ => std_next) (last (q :: t) p.2 hsl)
    · rw [fin]
      exact std_ret (evd_tupOwn (i := 1) rfl)
theorem c_undone {r : Row} (h1 : r.length ≤ 1000) (h2 : SmR r) : fTurned [rw_ r] (rw_ (turnR r)) := ⟨r, rfl, h1, h2, rfl⟩
theorem c_normL {r : Row} {N : Nat} (h : RowQ N r) (h2 : N * 60 < 2 ^ 64) : fNormL [rw_ r] (rw_ (nf r)) := ⟨r, N, rfl, h, h2, rfl⟩
theorem sc__law_rest : FnScope ["_law_row_so", "_law_other_so"] ["_law_row_so", "_law_other_so"] (defScope (top 79)) := ⟨rfl, rfl, rfl, by decide +kernel, rfl, by decide +kernel, by decide +kernel⟩
theorem d_law_rest (C : CT P w K mg base T) : Df P w K mg base "_law_rest" 4 ["_law_row_so", "_law_other_so"] (spF T K fRest) := by
  refine df_of C (i := 61) (x := "_law_rest") (N := ["_law_row_so", "_law_other_so"]) (n := 0) rfl sc__law_rest (fun _ _ _ _ _ _ us hl => match us, hl with | [_, _], _ => rfl) ?_ rfl fun cdv A outer s H E fa hr => ⟨_, (pss_one (ps_ret (pe_dfK (d_law_normal C) rfl rfl rfl rfl rfl hr (by rfl) (pa_cons (pe_op (op_plusK K rfl) (pe_callTy (call_tupleK K rfl) (by rfl) (C.free 16 _ rfl) (by decide +kernel) (pa_cons (pv 0) pa_nil)) (pe_dfK (d_law_undone C) rfl rfl rfl rfl rfl hr (by rfl) (pa_cons (pv 1) pa_nil))) pa_nil)))), ?_⟩
  · rintro _ _ ⟨r, s, N, rfl, hr, hs, hl, hN, rfl⟩
    rfl
  · rintro _ _ ⟨r, s, N, rfl, hr, hs, hl, hN, rfl⟩
    refine std_ret (evd_call (evds_cons (EvD.is (evd_op (evd_cb (evds_cons (evd_var rfl) evds_nil) tuple_T) (evd_call (evds_cons (evd_var rfl) evds_nil) (c_undone (by omega) (hs.sm (by omega)))) (plus_tup (by have := turn_len s; simp; omega))) ?_) evds_nil) (c_normL (join_q hr hs hl) hN))
    show PyData.tuple (r.map pr ++ (turnR s).map pr) = PyData.tuple ((r ++ turnR s).map pr)
    rw [List.map_append]
end
end K37
namespace K37
open PySem PySem.Spec L2
local macro_rules | `(tactic| walk_at "sz") => `(tactic| first | assumption | decide | omega)
local macro_rules | `(tactic| walk_at "call") => `(tactic| fail "no call")
local macro_rules | `(tactic| walk_at "cb") => `(tactic| first
  | with_reducible exact gcd_D | with_reducible exact len_T | with_reducible exact len_L | with_reducible exact tuple_L | with_reducible exact tuple_T | with_reducible exact max_D | with_reducible exact min_D | with_reducible exact abs_D
  | with_reducible exact int_D | with_reducible exact int_B)
local macro_rules | `(tactic| walk_at "op") => `(tactic| first
  | with_reducible exact minus_int | with_reducible exact plus_int | ((with_reducible apply times_int); walk_at "sz") | ((with_reducible apply ix_tupD); exact rfl) | ((with_reducible apply ix_lstD); exact rfl)
  | with_reducible exact lt_intD | with_reducible exact le_intD | with_reducible exact gt_intD | with_reducible exact ge_intD
  | ((with_reducible apply eq_D) <;> first | exact rfl | exact fr_shaped _ | assumption) | ((with_reducible apply ne_D) <;> first | exact rfl | exact fr_shaped _ | assumption)
  | ((with_reducible apply fdiv_int); walk_at "sz") | ((with_reducible apply fmod_int); walk_at "sz")
  | ((with_reducible apply plus_tup); walk_at "sz") | ((with_reducible apply plus_lst); walk_at "sz"))
local macro_rules | `(tactic| walk_at "evs") => `(tactic| first
  | with_reducible exact evds_nil
  | ((with_reducible apply evds_cons); (· walk_at "ev"); (· walk_at "evs")))
local macro_rules | `(tactic| walk_at "ev") => `(tactic| first
  | assumption
  | ((with_reducible apply evd_var); exact rfl)
  | with_reducible exact evd_int | with_reducible exact evd_cst | with_reducible exact evd_non | with_reducible exact evd_bl
  | ((with_reducible apply evd_op); (· walk_at "ev"); (· walk_at "ev"); (· walk_at "op"))
  | ((with_reducible apply evd_un); (· walk_at "ev"); (· with_reducible exact neg_intD))
  | ((with_reducible apply evd_call); (· walk_at "evs"); (· walk_at "call"))
  | ((with_reducible apply evd_cb); (· walk_at "evs"); (· walk_at "cb"))
  | ((with_reducible apply evd_tup); (· walk_at "evs"); (· exact Nat.le_of_ble_eq_true rfl))
  | ((with_reducible apply evd_isN); walk_at "ev") | ((with_reducible apply evd_notN); walk_at "ev")
  | ((with_reducible apply evd_not); walk_at "ev"))
local macro_rules | `(tactic| walk_at "te") => `(tactic| first
  | ((with_reducible apply ted_test); walk_at "ev") | ((with_reducible apply ted_B); walk_at "ev") | ((with_reducible apply ted_not); walk_at "te"))

/-- a coefficient of the law's own: a fraction, or a plain int -/
def Bit (q : Rat) (d : PyData) : Prop := d = fr q ∨ ∃ n : Int, d = .int n ∧ q = (n : Rat)
def fFrac (ds : List PyData) (d : PyData) : Prop := ∃ (q : Rat) (b : PyData), ds = [b] ∧ Bit q b ∧ d = fr q
section
variable {P : Program} {w : World} {K : PySem.W.Frag} {mg : Str → Option Value} {base : Heap} {T : Tb}
theorem sc__law_frac : FnScope ["_law_bit"] ["_law_bit"] (defScope (top 85)) := ⟨rfl, rfl, rfl, by decide +kernel, rfl, by decide +kernel, by decide +kernel⟩
theorem d_law_frac (C : CT P w K mg base T) : Df P w K mg base "_law_frac" 1 ["_law_bit"] (spF T K fFrac) := by
  refine df_of C (i := 67) (x := "_law_frac") (N := ["_law_bit"]) (n := 0) rfl sc__law_frac (fun _ _ _ _ _ _ us hl => match us, hl with | [_], _ => rfl) ?_ rfl fun cdv A outer s H E fa hr => ⟨_, (pss_one (ps_ret (pe_ifExp (pt_val (pe_callB (call_isiK1 K rfl) (by rfl) (C.free 6 _ rfl) (by decide +kernel) (pa_cons (pv 0) (pa_cons (pe_bltn (v := .ty "tuple") (by rfl) (C.free 16 _ rfl) (by decide +kernel) rfl) pa_nil)))) (pv 0) (pe_tup (pa_cons (pv 0) (pa_cons pe_int pa_nil)))))), ?_⟩
  · rintro _ _ ⟨q, b, rfl, hb, rfl⟩
    rfl
  · rintro _ _ ⟨q, b, rfl, hb, rfl⟩
    rcases hb with rfl | ⟨n, rfl, rfl⟩
    · exact std_ret (evd_if (x := true) (ted_B (evd_isi (evd_var rfl) kit2.2.2.2.2)) (fun _ => evd_var rfl) fun h => by cases h)
    · rw [fr_int]
      exact std_ret (evd_if (x := false) (ted_B (evd_isi (evd_var rfl) kit2.2.2.1)) (fun h => by cases h) fun _ => by walk_at "ev")
theorem c_frac {q : Rat} {b : PyData} (h : Bit q b) : fFrac [b] (fr q) := ⟨q, b, rfl, h, rfl⟩
/-- the noughts behind are taken off -/
theorem padd_loop {x y z : Sl} (l : List Rat) : Wh T K (tAnd (tTest (tOp (rNeD K) (tVar 3) (tLst tNil))) (tTest (tOp (rEqD K) (tOp (rIx K) (tOp (rIx K) (tVar 3) (tUn (rU fun i => .int (-i)) (tC (.int 1)))) (tC (.int 0))) (tC (.int 0))))) (tDrop (tBM0 K "list" rPop (tVar 3)))
    [x, y, z, .own (l.reverse.map fr), .any, .any, .any] [x, y, z, .own ((dropZ l).reverse.map fr), .any, .any, .any] := by
  induction l with
  | nil => exact .stop (TeD.is (x := !PyData.eqv (plL []) (plL []) && true) (ted_and (ted_test (evd_neOwn (i := 3) rfl (evf_lst evds_nil (Nat.zero_le _)).ev rfl rfl)) fun h => by cases h) rfl)
  | cons r l ih =>
    have ex : ((r :: l).reverse.map fr).getLast? = some (fr r) := by simp
    have hne : (r :: l).reverse ≠ [] := by simp
    have t1 : TeD T K (tTest (tOp (rNeD K) (tVar 3) (tLst tNil))) [x, y, z, .own ((r :: l).reverse.map fr), .any, .any, .any] true :=
      TeD.is (ted_test (evd_neOwn (i := 3) rfl (evf_lst evds_nil (Nat.zero_le _)).ev (plL_shaped _) rfl)) (by rw [show PyData.eqv (.list ((r :: l).reverse.map fr)) (.list []) = decide ((r :: l).reverse = []) from plL_eqv _ []]; simp)
    have t2 : TeD T K (tTest (tOp (rEqD K) (tOp (rIx K) (tOp (rIx K) (tVar 3) (tUn (rU fun i => .int (-i)) (tC (.int 1)))) (tC (.int 0))) (tC (.int 0)))) [x, y, z, .own ((r :: l).reverse.map fr), .any, .any, .any] (decide (r = 0)) :=
      TeD.is (ted_test (evd_op (evd_op (evd_ixOwn (i := 3) rfl (evd_un evd_int neg_intD) (at_last ex)) evd_int (ix_tupD rfl)) evd_int (eq_D rfl rfl))) (by rw [eqv_int]; exact decide_eq_decide.mpr num_zero)
    have ec : dropZ (r :: l) = if r = 0 then dropZ l else r :: l := by unfold dropZ; rw [List.dropWhile_cons]; simp
    rw [ec]
    by_cases e : r = 0
    · rw [if_pos e]
      refine .more (ρ1 := [x, y, z, .own (l.reverse.map fr), .any, .any, .any]) (TeD.is (ted_and t1 fun _ => t2) (by rw [decide_eq_true e]; rfl)) ?_ ih
      have ed : ((r :: l).reverse.map fr).dropLast = l.reverse.map fr := by simp
      have := std_pop (T := T) (K := K) (ρ := [x, y, z, .own ((r :: l).reverse.map fr), .any, .any, .any]) (i := 3) rfl (by simp)
      rw [ed] at this
      exact this
    · rw [if_neg e]
      exact .stop (TeD.is (ted_and t1 fun _ => t2) (by rw [decide_eq_false e]; rfl))
/-- a polynomial of the law's own: its list, and what it stands for -/
def fPadd (ds : List PyData) (d : PyData) : Prop := ∃ (p q : List Rat) (bs cs : List PyData), ds = [.list bs, .list cs] ∧ bs.length = p.length ∧ cs.length = q.length ∧ (∀ (i : Nat) (x : Rat) (b : PyData), p[i]? = some x → bs[i]? = some b → Bit x b) ∧ (∀ (i : Nat) (x : Rat) (b : PyData), q[i]? = some x → cs[i]? = some b → Bit x b) ∧ SmL p ∧ SmL q ∧ d = plL (padd p q)
theorem sc__law_poly_add : FnScope ["_law_one", "_law_two", "_law_many", "_law_found", "_law_k", "_law_near", "_law_far"] ["_law_one", "_law_two"] (defScope (top 86)) := ⟨rfl, rfl, rfl, by decide +kernel, rfl, by decide +kernel, by decide +kernel⟩
theorem d_law_poly_add (C : CT P w K mg base T) : Df P w K mg base "_law_poly_add" 3 ["_law_one", "_law_two"] (spF T K fPadd) := by
  refine df_of C (i := 68) (x := "_law_poly_add") (N := ["_law_one", "_law_two", "_law_many", "_law_found", "_law_k", "_law_near", "_law_far"]) (n := 5) rfl sc__law_poly_add (fun _ _ _ _ _ _ us hl => match us, hl with | [_, _], _ => rfl) ?_ rfl fun cdv A outer s H E fa hr => ⟨_, (pss_cons (ps_set (i := 2) sc__law_poly_add.nd rfl (by first | exact Or.inl rfl | exact Or.inr rfl) (pe_callB (call_max2 rfl) (by rfl) (C.free 9 _ rfl) (by decide +kernel) (pa_cons (pe_callB (call_lenK K rfl) (by rfl) (C.free 7 _ rfl) (by decide +kernel) (pa_cons (pv 0) pa_nil)) (pa_cons (pe_callB (call_lenK K rfl) (by rfl) (C.free 7 _ rfl) (by decide +kernel) (pa_cons (pv 1) pa_nil)) pa_nil))))
  (pss_cons (ps_set (i := 3) sc__law_poly_add.nd rfl (by first | exact Or.inl rfl | exact Or.inr rfl) (pe_lst pa_nil))
  (pss_cons (ps_for PassesOwn.never rfl (pi_range1 (by rfl) (C.free 11 _ rfl) (pa_cons (pv 2) pa_nil)) (pg_name (i := 4) sc__law_poly_add.nd rfl (by first | exact Or.inl rfl | exact Or.inr rfl)) (pss_cons (ps_set (i := 5) sc__law_poly_add.nd rfl (by first | exact Or.inl rfl | exact Or.inr rfl) (pe_ifExp (pt_cmpR op_lt (pv 4) (pe_callB (call_lenK K rfl) (by rfl) (C.free 7 _ rfl) (by decide +kernel) (pa_cons (pv 0) pa_nil)) (nomark _)) (pe_dfK (d_law_frac C) rfl rfl rfl rfl rfl hr (by rfl) (pa_cons (pe_ix (ix_seqK K rfl) (pv 0) (pv 4) (fun _ _ => rfl)) pa_nil)) (pe_tup (pa_cons pe_int (pa_cons pe_int pa_nil)))))
  (pss_cons (ps_set (i := 6) sc__law_poly_add.nd rfl (by first | exact Or.inl rfl | exact Or.inr rfl) (pe_ifExp (pt_cmpR op_lt (pv 4) (pe_callB (call_lenK K rfl) (by rfl) (C.free 7 _ rfl) (by decide +kernel) (pa_cons (pv 1) pa_nil)) (nomark _)) (pe_dfK (d_law_frac C) rfl rfl rfl rfl rfl hr (by rfl) (pa_cons (pe_ix (ix_seqK K rfl) (pv 1) (pv 4) (fun _ _ => rfl)) pa_nil)) (pe_tup (pa_cons pe_int (pa_cons pe_int pa_nil)))))
  (pss_one (ps_expr (pe_bmK K rfl PySem.F.plainAttrs_list PySem.F.slot_list_append PySem.F.type_list_append mt_append (pv 3) (pa_cons (pe_dfK (d_law_add C) rfl rfl rfl rfl rfl hr (by rfl) (pa_cons (pv 5) (pa_cons (pv 6) pa_nil))) pa_nil)))))))
  (pss_cons (ps_while PassesOwn.never (PW.pt (pw_and (pt_cmpR (op_neK K rfl hr.units) (pv 3) (pe_lst pa_nil) (nomark _)) (pw_and1 (pt_cmpR (op_eqK K rfl hr.units) (pe_ix (ix_seqK K rfl) (pe_ix (ix_seqK K rfl) (pv 3) (pe_un un_neg pe_int) (fun _ _ => rfl)) pe_int (fun _ _ => rfl)) pe_int (nomark _))))) (pss_one (ps_expr (pe_bm0K K rfl PySem.F.plainAttrs_list PySem.F.slot_list_pop PySem.F.type_list_pop mt_pop (pv 3)))))
  (pss_one (ps_ret (pv 3))))))), ?_⟩
  · rintro _ _ ⟨p, q, bs, cs, rfl, lb, lc, hb, hc, hp, hq, rfl⟩
    rfl
  · rintro _ _ ⟨p, q, bs, cs, rfl, lb, lc, hb, hc, hp, hq, rfl⟩
    have lp := hp.1
    have lq := hq.1
    have cfS : ∀ (u : List Rat) (k : Nat), SmL u → Sm 4000 (cf u k) := fun u k hu => by
      unfold cf
      rw [(List.getD_eq_getElem?_getD)]
      cases e : u[k]? with
      | none => exact Bq.sm (D := 1) (B := 0) Bq.zero (by decide) (p4000 (by decide)) (p4000 (by decide))
      | some x => exact hu.2 x (List.mem_of_getElem? e)
    have e0 : max (bs.length : Int) (cs.length : Int) = ((max p.length q.length : Nat) : Int) := by omega
    let ρ : Nat → List Sl := fun i => [.dat (.list bs), .dat (.list cs), .dat (.int ((max p.length q.length : Nat) : Int)), .own (((addL p q).take i).map fr), .any, .any, .any]
    refine std_seq (ρ1 := [.dat (.list bs), .dat (.list cs), .dat (.int ((max p.length q.length : Nat) : Int)), .any, .any, .any, .any]) ?_ ?_
    · rw [← e0]
      exact std_asg (by walk_at "ev")
    refine std_seq (ρ1 := ρ 0) (std_asgF (i := 3) (ds := []) (evf_lst evds_nil (Nat.zero_le _))) ?_
    have fin : ρ (rngD 0 (max p.length q.length)).length = [.dat (.list bs), .dat (.list cs), .dat (.int ((max p.length q.length : Nat) : Int)), .own ((addL p q).map fr), .any, .any, .any] := by
      show [Sl.dat (.list bs), .dat (.list cs), .dat (.int ((max p.length q.length : Nat) : Int)), .own (((addL p q).take (rngD 0 (max p.length q.length)).length).map fr), .any, .any, .any] = _
      rw [rngD_len, List.take_of_length_le (by rw [addL_len]; exact Nat.le_refl _)]
    have em : ((max p.length q.length : Nat) : Int).toNat = max p.length q.length := by omega
    have part : ∀ (j : Nat) (u : List Rat) (xs : List PyData) (sl : List Sl) (i : Nat), sl[j]? = some (.dat (.list xs)) → sl[4]? = some (.dat (.int ((i : Nat) : Int))) → xs.length = u.length → (∀ (i : Nat) (x : Rat) (b : PyData), u[i]? = some x → xs[i]? = some b → Bit x b) →
        EvD T K (tIf (tTest (tOp (rI0 fun i j => .bl (decide (i < j))) (tVar 4) (tCB (rLenS K) (tCons (tVar j) tNil)))) (tCall (spF T K fFrac) [] E0 (tCons (tOp (rIx K) (tVar j) (tVar 4)) tNil)) (tTup (tCons (tC (.int 0)) (tCons (tC (.int 1)) tNil)))) sl (fr (cf u i)) := fun j u xs sl i h1 h2 hl hbit => by
      have tt : TeD T K (tTest (tOp (rI0 fun i j => .bl (decide (i < j))) (tVar 4) (tCB (rLenS K) (tCons (tVar j) tNil)))) sl (decide (((i : Nat) : Int) < (xs.length : Int))) :=
        ted_test (evd_op (evd_var h2) (evd_cb (evds_cons (evd_var h1) evds_nil) len_L) lt_intD)
      by_cases hi : i < u.length
      · have hx : i < xs.length := by omega
        have ecf : cf u i = u[i] := by unfold cf; rw [List.getD_eq_getElem?_getD, List.getElem?_eq_getElem hi]; rfl
        rw [ecf]
        refine evd_if (x := true) (TeD.is tt (decide_eq_true (by omega))) (fun _ => ?_) fun h => by cases h
        exact evd_call (evds_cons (evd_op (evd_var h1) (evd_var h2) (ix_lstD (at_nat (List.getElem?_eq_getElem hx)))) evds_nil) (c_frac (hbit i _ _ (List.getElem?_eq_getElem hi) (List.getElem?_eq_getElem hx)))
      · rw [cf_zero (by omega)]
        refine evd_if (x := false) (TeD.is tt (decide_eq_false (by omega))) (fun h => by cases h) fun _ => ?_
        exact evd_tup (evds_cons evd_int (evds_cons evd_int evds_nil)) (Nat.le_of_ble_eq_true rfl)
    refine std_seq (ρ1 := ρ (rngD 0 (max p.length q.length)).length) (std_for (js := [4]) ρ (em ▸ itd_rng1 (evds_cons (evd_var rfl) evds_nil) (by omega) (by omega)) fun i d hd => ?_) ?_
    · obtain ⟨hi, rfl⟩ := rngD_get hd
      refine ⟨_, tgd_name, ?_⟩
      rw [Int.zero_add]
      have ec : ((addL p q).take (i+1)).map fr = ((addL p q).take i).map fr ++ [fr (cf p i + cf q i)] := by
        have hl : i < (addL p q).length := by rw [addL_len]; exact hi
        have e2 : (addL p q)[i]? = some (cf p i + cf q i) := by
          rw [List.getElem?_eq_getElem hl]
          have := cf_addL p q i
          unfold cf at this
          rw [List.getD_eq_getElem?_getD, List.getElem?_eq_getElem hl] at this
          exact congrArg some this
        rw [List.take_add_one, e2, List.map_append]; rfl
      let σ : Sl → Sl → Sl → List Sl := fun o x y => [.dat (.list bs), .dat (.list cs), .dat (.int ((max p.length q.length : Nat) : Int)), o, .dat (.int ((i : Nat) : Int)), x, y]
      show StD T K _ (σ (.own (((addL p q).take i).map fr)) .any .any) _
      refine std_seq (ρ1 := σ (.own (((addL p q).take i).map fr)) (.dat (fr (cf p i))) .any) (std_asg (part 0 p bs _ i rfl rfl lb hb)) ?_
      refine std_seq (ρ1 := σ (.own (((addL p q).take i).map fr)) (.dat (fr (cf p i))) (.dat (fr (cf q i)))) (std_asg (part 1 q cs _ i rfl rfl lc hc)) ?_
      refine std_weakN (ρ1 := σ (.own (((addL p q).take (i+1)).map fr)) (.dat (fr (cf p i))) (.dat (fr (cf q i)))) ?_ rfl ?_
      · rw [ec]
        exact std_app rfl (evd_call (evds_cons (evd_var rfl) (evds_cons (evd_var rfl) evds_nil)) (c_addL (cfS p i hp) (cfS q i hq))) (by simp; omega)
      · intro j s hj
        match j, hj with
        | 0, hj => exact .inr hj
        | 1, hj => exact .inr hj
        | 2, hj => exact .inr hj
        | 3, hj => exact .inr hj
        | 4, hj => cases hj; exact .inl rfl
        | 5, hj => cases hj; exact .inl rfl
        | 6, hj => cases hj; exact .inl rfl
    · rw [fin]
      have lp := padd_loop (T := T) (K := K) (x := .dat (.list bs)) (y := .dat (.list cs)) (z := .dat (.int ((max p.length q.length : Nat) : Int))) (addL p q).reverse
      rw [List.reverse_reverse] at lp
      exact std_seq (std_wh lp) (std_share (i := 3) rfl (std_ret (evd_var rfl)))
end
end K37
namespace K37
/-! ### polynomials read at a step -/
def evP (h : Rat) : Po → Rat
  | [] => 0
  | c :: p => c + h * evP h p
theorem evP_zeros (h : Rat) : ∀ n : Nat, evP h (List.replicate n 0) = 0
  | 0 => rfl
  | n + 1 => by
    rw [List.replicate_succ]
    show 0 + h * evP h (List.replicate n 0) = 0
    rw [evP_zeros h n]; grind
theorem evP_pads (h : Rat) : ∀ (p : Po) (n : Nat), evP h (p ++ List.replicate n 0) = evP h p
  | [], n => evP_zeros h n
  | c :: p, n => by
    show c + h * evP h (p ++ List.replicate n 0) = c + h * evP h p
    rw [evP_pads h p n]
theorem evP_trim (h : Rat) (p : Po) : evP h (trim p) = evP h p := by
  obtain ⟨n, e⟩ := trim_split p
  conv => rhs; rw [e]
  rw [evP_pads]
theorem evP_zip (h : Rat) : ∀ p q : Po, p.length = q.length → evP h (List.zipWith (· + ·) p q) = evP h p + evP h q
  | [], [], _ => by show (0 : Rat) = 0 + 0; grind
  | c :: p, d :: q, e => by
    show (c + d) + h * evP h (List.zipWith (· + ·) p q) = (c + h * evP h p) + (d + h * evP h q)
    rw [evP_zip h p q (by simpa using e)]; grind
theorem evP_padd (h : Rat) (p q : Po) : evP h (padd p q) = evP h p + evP h q := by
  unfold padd addL
  rw [evP_trim, evP_zip h _ _ (by rw [pad_len _ (Nat.le_max_left _ _), pad_len _ (Nat.le_max_right _ _)])]
  unfold pad
  rw [evP_pads, evP_pads]
theorem evP_map (h x : Rat) : ∀ p : Po, evP h (p.map (· * x)) = evP h p * x
  | [] => by show (0 : Rat) = 0 * x; grind
  | c :: p => by
    show c * x + h * evP h (p.map (· * x)) = (c + h * evP h p) * x
    rw [evP_map h x p]; grind
theorem evP_pscale (h x : Rat) (p : Po) : evP h (pscale x p) = evP h p * x := by unfold pscale; rw [evP_trim, evP_map]
theorem evP_pstep (h : Rat) (p : Po) : evP h (pstep p) = h * evP h p := by
  unfold pstep
  split
  · rename_i e; subst e; show (0 : Rat) = h * 0; grind
  · rw [evP_trim]
    show 0 + h * evP h p = h * evP h p
    grind
theorem evP_scl (h x : Rat) (e t : Po) : evP h (scl x e t) = evP h t + x * evP h e := by
  unfold scl
  split
  · rename_i z; rw [z]; grind
  · rw [evP_padd, evP_pscale]; grind
theorem evP_ent (h : Rat) (r : Vc) (sh : Rat) (e : Po × Po) : evP h (ent r sh e) = (r.1 * evP h e.1 + r.2 * evP h e.2) * (sh * h) := by
  unfold ent sumP
  rw [evP_pscale, evP_pstep, evP_scl, evP_scl]
  show h * (0 + r.1 * evP h e.1 + r.2 * evP h e.2) * sh = _
  grind
def evC (h : Rat) (e : Po × Po) : Vc := (evP h e.1, evP h e.2)
theorem ev_led0 (h : Rat) (N : Mx) (x : Rat) (t : Tbl) : evC h (col0 (ledT N x t)) = movV N (x * h) (evC h (col0 t)) := by
  show (evP h (padd t.1.1 (ent N.1 x (col0 t))), evP h (padd t.2.1 (ent N.2 x (col0 t)))) = _
  rw [evP_padd, evP_padd, evP_ent, evP_ent]; rfl
theorem ev_led1 (h : Rat) (N : Mx) (x : Rat) (t : Tbl) : evC h (col1 (ledT N x t)) = movV N (x * h) (evC h (col1 t)) := by
  show (evP h (padd t.1.2 (ent N.1 x (col1 t))), evP h (padd t.2.2 (ent N.2 x (col1 t)))) = _
  rw [evP_padd, evP_padd, evP_ent, evP_ent]; rfl
theorem ev_tab (Ns : List Mx) (h : Rat) : ∀ (r : Row) (t : Tbl), evC h (col0 (act (tabE Ns) r t)) = act (flowE Ns h) r (evC h (col0 t)) ∧ evC h (col1 (act (tabE Ns) r t)) = act (flowE Ns h) r (evC h (col1 t))
  | [], _ => ⟨rfl, rfl⟩
  | p :: r, t => by
    have := ev_tab Ns h r (tabE Ns p.1 p.2 t)
    rw [act_cons, this.1, this.2]
    unfold tabE
    rw [ev_led0, ev_led1]
    exact ⟨rfl, rfl⟩
/-- tables alike: flows alike -/
theorem tab_flow {Ns : List Mx} {r s : Row} (e : act (tabE Ns) r IT = act (tabE Ns) s IT) (h : Rat) : act (flowE Ns h) r e1 = act (flowE Ns h) s e1 ∧ act (flowE Ns h) r e2 = act (flowE Ns h) s e2 := by
  have h1 := ev_tab Ns h r IT
  have h2 := ev_tab Ns h s IT
  rw [e] at h1
  have c0 : evC h (col0 IT) = e1 := by
    show ((1 : Rat) + h * 0, (0 : Rat)) = (1, 0)
    refine Prod.ext ?_ ?_ <;> (simp only; try grind)
  have c1 : evC h (col1 IT) = e2 := by
    show ((0 : Rat), (1 : Rat) + h * 0) = (0, 1)
    refine Prod.ext ?_ ?_ <;> (simp only; try grind)
  rw [c0, c1] at h1 h2
  exact ⟨h1.1.symm.trans h2.1, h1.2.symm.trans h2.2⟩
/-! ### the coefficients of a table -/
abbrev SeqT := Nat → Vc × Vc
def cfT (t : Tbl) : SeqT := fun k => ((cf t.1.1 k, cf t.2.1 k), (cf t.1.2 k, cf t.2.2 k))
def seqE (Ns : List Mx) (p : Int) (x : Rat) (f : SeqT) : SeqT
  | 0 => f 0
  | k + 1 => (vad (f (k + 1)).1 (vsc x (mv (nm Ns p) (f k).1)), vad (f (k + 1)).2 (vsc x (mv (nm Ns p) (f k).2)))
theorem vad3 (N : Mx) (nil : NilM N) (x y : Rat) (a b c : Vc) : vad (vad a (vsc x (mv N b))) (vsc y (mv N (vad b (vsc x (mv N c))))) = vad a (vsc (x + y) (mv N b)) := by
  rw [mv_ad, mv_sc, nil c, vsc_zero, vad_zero]
  unfold vad vsc
  refine Prod.ext ?_ ?_ <;> (simp only; grind)
theorem vad2 (N : Mx) (x y : Rat) (a b : Vc) : vad (vad a (vsc x (mv N b))) (vsc y (mv N b)) = vad a (vsc (x + y) (mv N b)) := by
  unfold vad vsc
  refine Prod.ext ?_ ?_ <;> (simp only; grind)
theorem vad0 (N : Mx) (a b : Vc) : vad a (vsc 0 (mv N b)) = a := by
  unfold vad vsc
  refine Prod.ext ?_ ?_ <;> (simp only; grind)
theorem seq_acts {Ns : List Mx} (nil : ∀ p, NilM (nm Ns p)) : Acts (seqE Ns) := by
  refine ⟨fun p f => funext fun k => ?_, fun p x y f => funext fun k => ?_⟩
  · cases k with
    | zero => rfl
    | succ k =>
      show (vad (f (k + 1)).1 (vsc 0 (mv (nm Ns p) (f k).1)), vad (f (k + 1)).2 (vsc 0 (mv (nm Ns p) (f k).2))) = _
      rw [vad0, vad0]
  · cases k with
    | zero => rfl
    | succ k =>
      cases k with
      | zero =>
        show (vad (vad (f 1).1 (vsc x (mv (nm Ns p) (f 0).1))) (vsc y (mv (nm Ns p) (f 0).1)), vad (vad (f 1).2 (vsc x (mv (nm Ns p) (f 0).2))) (vsc y (mv (nm Ns p) (f 0).2))) = _
        rw [vad2, vad2]; rfl
      | succ k =>
        show (vad (vad (f (k + 2)).1 (vsc x (mv (nm Ns p) (f (k + 1)).1))) (vsc y (mv (nm Ns p) (vad (f (k + 1)).1 (vsc x (mv (nm Ns p) (f k).1))))), vad (vad (f (k + 2)).2 (vsc x (mv (nm Ns p) (f (k + 1)).2))) (vsc y (mv (nm Ns p) (vad (f (k + 1)).2 (vsc x (mv (nm Ns p) (f k).2)))))) = _
        rw [vad3 _ (nil p), vad3 _ (nil p)]; rfl
theorem cf_led (Ns : List Mx) (p : Int) (x : Rat) (t : Tbl) : cfT (tabE Ns p x t) = seqE Ns p x (cfT t) := by
  funext k
  unfold tabE ledT
  cases k with
  | zero =>
    show ((cf (padd t.1.1 (ent _ x (col0 t))) 0, cf (padd t.2.1 (ent _ x (col0 t))) 0), (cf (padd t.1.2 (ent _ x (col1 t))) 0, cf (padd t.2.2 (ent _ x (col1 t))) 0)) = _
    rw [cf_padd, cf_padd, cf_padd, cf_padd, cf_ent0, cf_ent0, cf_ent0, cf_ent0]
    simp only [Rat.add_zero]; rfl
  | succ k =>
    show ((cf (padd t.1.1 (ent _ x (col0 t))) (k + 1), cf (padd t.2.1 (ent _ x (col0 t))) (k + 1)), (cf (padd t.1.2 (ent _ x (col1 t))) (k + 1), cf (padd t.2.2 (ent _ x (col1 t))) (k + 1))) = _
    rw [cf_padd, cf_padd, cf_padd, cf_padd, cf_ent, cf_ent, cf_ent, cf_ent]; rfl
theorem cf_act (Ns : List Mx) : ∀ (r : Row) (t : Tbl), cfT (act (tabE Ns) r t) = act (seqE Ns) r (cfT t)
  | [], _ => rfl
  | p :: r, t => by rw [act_cons, cf_act Ns r, cf_led]; rfl
theorem cfT_ext {t u : Tbl} (ht : TrT t) (hu : TrT u) (h : cfT t = cfT u) : t = u := by
  have hk := fun k => congrFun h k
  refine Prod.ext (Prod.ext ?_ ?_) (Prod.ext ?_ ?_)
  · exact tr_ext ht.1.1 hu.1.1 fun k => congrArg (fun z : Vc × Vc => z.1.1) (hk k)
  · exact tr_ext ht.1.2 hu.1.2 fun k => congrArg (fun z : Vc × Vc => z.2.1) (hk k)
  · exact tr_ext ht.2.1 hu.2.1 fun k => congrArg (fun z : Vc × Vc => z.1.2) (hk k)
  · exact tr_ext ht.2.2 hu.2.2 fun k => congrArg (fun z : Vc × Vc => z.2.2) (hk k)
theorem tr_tab (Ns : List Mx) : ∀ (r : Row) (t : Tbl), TrT t → TrT (act (tabE Ns) r t)
  | [], _, h => h
  | p :: r, t, h => tr_tab Ns r _ (tr_addT _ _)
/-- nothing left: tables alike -/
theorem tab_same {Ns : List Mx} (nil : ∀ p, NilM (nm Ns p)) {r s : Row} (h : nf (r ++ turnR s) = []) : act (tabE Ns) r IT = act (tabE Ns) s IT := by
  refine cfT_ext (tr_tab Ns r _ tr_IT) (tr_tab Ns s _ tr_IT) ?_
  rw [cf_act, cf_act]
  exact act_same (seq_acts nil) r s h _
/-- nothing left: flows alike -/
theorem flow_acts {Ns : List Mx} (nil : ∀ p, NilM (nm Ns p)) (h : Rat) : Acts (flowE Ns h) :=
  ⟨fun p v => mov_zero _ _ _, fun p x y v => mov_acts (nm Ns) h nil p x y v⟩
/-! ### the law's own writing of a table -/
def ptim (p : Po) (x : Rat) : Po := padd (p.map (· * x)) []
def plat (p : Po) (x : Rat) : Po := padd (0 :: p.map (· * x)) []
def shE (a : Rat) (x : Rat) (t : Tbl) : Tbl :=
  let l0 := padd (ptim t.1.1 (-a)) t.2.1
  let l1 := padd (ptim t.1.2 (-a)) t.2.2
  ((padd t.1.1 (plat l0 x), padd t.1.2 (plat l1 x)), (padd t.2.1 (plat l0 (x * a)), padd t.2.2 (plat l1 (x * a))))
theorem cf_map (p : Po) (x : Rat) (k : Nat) : cf (p.map (· * x)) k = cf p k * x := by
  unfold cf
  rw [List.getD_eq_getElem?_getD, List.getD_eq_getElem?_getD]; rw [List.getElem?_map]
  cases p[k]? with
  | none => simp [Rat.zero_mul]
  | some y => rfl
theorem cf_ptim (p : Po) (x : Rat) (k : Nat) : cf (ptim p x) k = cf p k * x := by unfold ptim; rw [cf_padd, cf_map, cf_nil, Rat.add_zero]
theorem cf_plat0 (p : Po) (x : Rat) : cf (plat p x) 0 = 0 := by unfold plat; rw [cf_padd, cf_nil, Rat.add_zero]; rfl
theorem cf_plat (p : Po) (x : Rat) (k : Nat) : cf (plat p x) (k + 1) = cf p k * x := by
  unfold plat
  rw [cf_padd, cf_nil, Rat.add_zero]
  exact cf_map p x k
theorem sheet_step (k : Nat) (x : Rat) (t : Tbl) : shE (1 + (k : Rat)) x t = ledT (cellM k) x t := by
  refine cfT_ext ⟨⟨tr_padd _ _, tr_padd _ _⟩, ⟨tr_padd _ _, tr_padd _ _⟩⟩ (tr_addT _ _) (funext fun j => ?_)
  have z1 : ((-(1 + (k : Int)) : Int) : Rat) = -(1 + (k : Rat)) := by push_cast; rfl
  have z2 : ((-(1 + (k : Int)) * (1 + (k : Int)) : Int) : Rat) = -(1 + (k : Rat)) * (1 + (k : Rat)) := by push_cast; rfl
  have z3 : ((1 + (k : Int) : Int) : Rat) = 1 + (k : Rat) := by push_cast; rfl
  unfold shE ledT addT termT lineP cfT col0 col1 cellM
  simp only [z1, z2, z3]
  generalize (1 + (k : Rat)) = a
  cases j with
  | zero => simp only [cf_padd, cf_plat0, cf_ent0]
  | succ j =>
    simp only [cf_padd, cf_plat, cf_ent, cf_ptim]
    refine Prod.ext (Prod.ext ?_ ?_) (Prod.ext ?_ ?_) <;> (simp only; grind)
end K37
namespace K37
def ab (x : Rat) : Rat := if x < 0 then -x else x
theorem ab_nn (x : Rat) : 0 ≤ ab x := by unfold ab; grind
theorem ab_mul (x y : Rat) : ab (x * y) = ab x * ab y := by
  unfold ab
  by_cases hx : x < 0 <;> by_cases hy : y < 0
  · have : 0 < x * y := by have := Rat.mul_pos (a := -x) (b := -y) (by grind) (by grind); grind
    simp only [hx, hy, if_true]; rw [if_neg (by grind)]; grind
  · by_cases h0 : y = 0
    · subst h0; grind
    · have : 0 < (-x) * y := Rat.mul_pos (by grind) (by grind)
      simp only [hx, hy, if_true, if_false]; rw [if_pos (by grind)]; grind
  · by_cases h0 : x = 0
    · subst h0; grind
    · have : 0 < x * (-y) := Rat.mul_pos (by grind) (by grind)
      simp only [hx, hy, if_true, if_false]; rw [if_pos (by grind)]; grind
  · by_cases h0 : x = 0
    · subst h0; grind
    · by_cases h1 : y = 0
      · subst h1; grind
      · have : 0 < x * y := Rat.mul_pos (by grind) (by grind)
        simp only [hx, hy, if_false]; rw [if_neg (by grind)]
theorem ab_far {s a k : Rat} (h : k ≤ ab s) : k * ab a ≤ ab (s * a) := by
  rw [ab_mul]
  exact Rat.mul_le_mul_of_nonneg_right h (ab_nn a)
/-! ### cells -/
/-- what the cell of a part sees -/
def aw (q : Nat) (v : Vc) : Rat := v.2 - (1 + (q : Rat)) * v.1
theorem cell_one (k : Nat) (s : Rat) (v : Vc) : movV (cellM k) s v = (v.1 + s * aw k v, v.2 + s * aw k v * (1 + (k : Rat))) := by
  unfold movV cellM vad vsc mv vdot aw
  have e1 : ((-(1 + (k : Int)) : Int) : Rat) = -(1 + (k : Rat)) := by push_cast; rfl
  have e2 : ((-(1 + (k : Int)) * (1 + (k : Int)) : Int) : Rat) = -(1 + (k : Rat)) * (1 + (k : Rat)) := by push_cast; rfl
  have e3 : ((1 + (k : Int) : Int) : Rat) = 1 + (k : Rat) := by push_cast; rfl
  simp only [e1, e2, e3]
  refine Prod.ext ?_ ?_ <;> (simp only; grind)
theorem aw_move (q k : Nat) (s : Rat) (v : Vc) : aw q (movV (cellM k) s v) = aw q v + ((k : Rat) - (q : Rat)) * (s * aw k v) := by
  rw [cell_one]
  unfold aw
  simp only
  grind
/-- p is seen most -/
def Most (p : Nat) (v : Vc) : Prop := 1 ≤ ab (aw p v) ∧ ∀ q, q < 4 → ab (aw q v) ≤ 4 * ab (aw p v)
theorem ab_d {d P : Rat} (hd : d = 1 ∨ d = -1 ∨ d = 2 ∨ d = -2 ∨ d = 3 ∨ d = -3) : ab P ≤ ab (d * P) := by
  rcases hd with rfl | rfl | rfl | rfl | rfl | rfl <;> (unfold ab; grind)
theorem ab_e {e P : Rat} (he : e = 0 ∨ e = 1 ∨ e = -1 ∨ e = 2 ∨ e = -2 ∨ e = 3 ∨ e = -3) : ab (e * P) ≤ 3 * ab P := by
  rcases he with rfl | rfl | rfl | rfl | rfl | rfl | rfl <;> (unfold ab; grind)
theorem ab_add1 (x y : Rat) : ab (x + y) ≤ ab x + ab y := by unfold ab; grind
theorem ab_add2 (x y : Rat) : ab y - ab x ≤ ab (x + y) := by unfold ab; grind
/-- seen four times less but for one: 3-fold against one -/
theorem ab_lin {A B C P d e : Rat} (a1 : ab A ≤ 4 * B) (a2 : 20 * B ≤ ab P) (a3 : 1 ≤ B) (a4 : ab C ≤ 4 * B) (hd : d = 1 ∨ d = -1 ∨ d = 2 ∨ d = -2 ∨ d = 3 ∨ d = -3) (he : e = 0 ∨ e = 1 ∨ e = -1 ∨ e = 2 ∨ e = -2 ∨ e = 3 ∨ e = -3) :
    16 ≤ ab (A + d * P) ∧ ab (C + e * P) ≤ 4 * ab (A + d * P) := by
  have h1 := ab_d (P := P) hd
  have h2 := ab_e (P := P) he
  have h3 := ab_add2 A (d * P)
  have h4 := ab_add1 C (e * P)
  generalize ab (A + d * P) = X at *
  generalize ab (C + e * P) = Y at *
  generalize ab (d * P) = Z at *
  generalize ab (e * P) = W at *
  generalize ab P = Q at *
  generalize ab A = R at *
  generalize ab C = S at *
  grind
theorem dif_d {p q : Nat} (hp : p < 4) (hq : q < 4) (ne : p ≠ q) : ((p : Rat) - (q : Rat) = 1 ∨ (p : Rat) - (q : Rat) = -1 ∨ (p : Rat) - (q : Rat) = 2 ∨ (p : Rat) - (q : Rat) = -2 ∨ (p : Rat) - (q : Rat) = 3 ∨ (p : Rat) - (q : Rat) = -3) := by
  rcases (by omega : p = 0 ∨ p = 1 ∨ p = 2 ∨ p = 3) with rfl | rfl | rfl | rfl <;> rcases (by omega : q = 0 ∨ q = 1 ∨ q = 2 ∨ q = 3) with rfl | rfl | rfl | rfl <;> first | exact absurd rfl ne | decide +kernel
theorem dif_e {p q : Nat} (hp : p < 4) (hq : q < 4) : ((p : Rat) - (q : Rat) = 0 ∨ (p : Rat) - (q : Rat) = 1 ∨ (p : Rat) - (q : Rat) = -1 ∨ (p : Rat) - (q : Rat) = 2 ∨ (p : Rat) - (q : Rat) = -2 ∨ (p : Rat) - (q : Rat) = 3 ∨ (p : Rat) - (q : Rat) = -3) := by
  rcases (by omega : p = 0 ∨ p = 1 ∨ p = 2 ∨ p = 3) with rfl | rfl | rfl | rfl <;> rcases (by omega : q = 0 ∨ q = 1 ∨ q = 2 ∨ q = 3) with rfl | rfl | rfl | rfl <;> decide +kernel
theorem most_step {p q : Nat} (hp : p < 4) (hq : q < 4) (ne : p ≠ q) {s : Rat} (hs : 20 ≤ ab s) {v : Vc} (h : Most p v) : Most q (movV (cellM p) s v) ∧ 16 ≤ ab (aw q (movV (cellM p) s v)) := by
  have far := ab_far (a := aw p v) hs
  obtain ⟨h1, h2⟩ := h
  unfold Most
  rw [aw_move]
  have h16 := (ab_lin (h2 q hq) far h1 (h2 q hq) (dif_d hp hq ne) (.inl rfl)).1
  refine ⟨⟨by grind, fun u hu => ?_⟩, h16⟩
  rw [aw_move]
  exact (ab_lin (h2 q hq) far h1 (h2 u hu) (dif_d hp hq ne) (dif_e hp hu)).2

theorem nm_cells {m : Nat} {p : Int} (h0 : 0 ≤ p) (h : p < m) : nm (cells m) p = cellM p.toNat := by
  unfold nm cells
  rw [List.getD_eq_getElem?_getD, List.getElem?_map, List.getElem?_range (by omega)]; rfl
theorem cells_go {m : Nat} {h : Rat} (hm : m ≤ 4) : ∀ (r : Row) (p : Int × Rat) (v : Vc), Red (p :: r) → (∀ q ∈ p :: r, 0 ≤ q.1 ∧ q.1 < m ∧ 20 ≤ ab (q.2 * h)) → Most p.1.toNat v → ∃ q, q < 4 ∧ 16 ≤ ab (aw q (act (flowE (cells m) h) (p :: r) v)) := fun r => by
  induction r with
  | nil =>
    intro p v hr hp hv
    obtain ⟨h1, h2, h3⟩ := hp p (.head _)
    have e : act (flowE (cells m) h) [p] v = movV (cellM p.1.toNat) (p.2 * h) v := by
      show movV (nm (cells m) p.1) (p.2 * h) v = _
      rw [nm_cells h1 h2]
    rw [e]
    by_cases hz : p.1.toNat = 0
    · exact ⟨1, by decide, (most_step (by omega) (by decide) (by omega) h3 hv).2⟩
    · exact ⟨0, by decide, (most_step (by omega) (by decide) (by omega) h3 hv).2⟩
  | cons q r ih =>
    intro p v hr hp hv
    obtain ⟨h1, h2, h3⟩ := hp p (.head _)
    have hq := hp q (.tail _ (.head _))
    rw [act_cons]
    have e : flowE (cells m) h p.1 p.2 v = movV (cellM p.1.toNat) (p.2 * h) v := by
      show movV (nm (cells m) p.1) (p.2 * h) v = _
      rw [nm_cells h1 h2]
    rw [e]
    have hne := hr.ne
    exact ih q _ hr.tail (fun u hu => hp u (.tail _ hu)) (most_step (by omega) (by omega) (by omega) h3 hv).1
/-- the cells lead a row that is not empty away, far steps given -/
theorem cells_part {m : Nat} {h : Rat} (hm : m ≤ 4) {r : Row} (hn : r ≠ []) (hr : Red r) (hp : ∀ q ∈ r, 0 ≤ q.1 ∧ q.1 < m ∧ 20 ≤ ab (q.2 * h)) : act (flowE (cells m) h) r e2 ≠ e2 := by
  match r, hn with
  | p :: r, _ =>
    intro e
    have one : ∀ q, aw q e2 = 1 := fun q => by
      show (1 : Rat) - (1 + (q : Rat)) * 0 = 1
      grind
    have a1 : ab 1 = 1 := by decide +kernel
    obtain ⟨q, _, h16⟩ := cells_go hm r p e2 hr hp ⟨by rw [one, a1]; decide +kernel, fun q _ => by rw [one, one, a1]; decide +kernel⟩
    rw [e, one, a1] at h16
    exact absurd h16 (by decide +kernel)
/-! ### the spring -/
def Big (p : Int) (v : Vc) : Prop := if p = 0 then ab v.1 < ab v.2 ∧ 1 ≤ ab v.2 else ab v.2 < ab v.1 ∧ 1 ≤ ab v.1
theorem spr0 (s : Rat) (v : Vc) : movV (nm spr 0) s v = (v.1 + s * v.2, v.2) := by
  show movV ((0, 1), (0, 0)) s v = _
  unfold movV vad vsc mv vdot
  refine Prod.ext ?_ ?_ <;> (simp only; grind)
theorem spr1 (s : Rat) (v : Vc) : movV (nm spr 1) s v = (v.1, v.2 + s * v.1) := by
  show movV ((0, 0), (1, 0)) s v = _
  unfold movV vad vsc mv vdot
  refine Prod.ext ?_ ?_ <;> (simp only; grind)
theorem big_step {p : Int} (hp : p = 0 ∨ p = 1) {s : Rat} (hs : 2 ≤ ab s) {v : Vc} (h : Big p v) : Big (1 - p) (movV (nm spr p) s v) ∧ (1 < ab (movV (nm spr p) s v).1 ∨ 1 < ab (movV (nm spr p) s v).2) := by
  rcases hp with rfl | rfl
  · rw [spr0]
    unfold Big at h ⊢
    rw [if_pos rfl] at h
    rw [if_neg (by decide)]
    have h1 := ab_far (a := v.2) hs
    have h2 := ab_add2 v.1 (s * v.2)
    simp only
    grind
  · rw [spr1]
    unfold Big at h ⊢
    rw [if_neg (by decide)] at h
    rw [if_pos (by decide)]
    have h1 := ab_far (a := v.1) hs
    have h2 := ab_add2 v.2 (s * v.1)
    simp only
    grind
theorem spr_go {h : Rat} : ∀ (r : Row) (p : Int × Rat) (v : Vc), Red (p :: r) → (∀ q ∈ p :: r, (q.1 = 0 ∨ q.1 = 1) ∧ 2 ≤ ab (q.2 * h)) → Big p.1 v → (1 < ab (act (flowE spr h) (p :: r) v).1 ∨ 1 < ab (act (flowE spr h) (p :: r) v).2) := fun r => by
  induction r with
  | nil =>
    intro p v hr hp hv
    obtain ⟨h1, h3⟩ := hp p (.head _)
    exact (big_step h1 h3 hv).2
  | cons q r ih =>
    intro p v hr hp hv
    obtain ⟨h1, h3⟩ := hp p (.head _)
    have hq := hp q (.tail _ (.head _))
    have hne := hr.ne
    have e : q.1 = 1 - p.1 := by omega
    exact ih q _ hr.tail (fun u hu => hp u (.tail _ hu)) (e ▸ (big_step h1 h3 hv).1)
theorem spr_part {h : Rat} {r : Row} (hn : r ≠ []) (hr : Red r) (hp : ∀ q ∈ r, (q.1 = 0 ∨ q.1 = 1) ∧ 2 ≤ ab (q.2 * h)) : act (flowE spr h) r e1 ≠ e1 ∨ act (flowE spr h) r e2 ≠ e2 := by
  match r, hn with
  | p :: r, _ =>
    have a0 : ab 0 = 0 := by decide +kernel
    have a1 : ab 1 = 1 := by decide +kernel
    have no : ∀ x : Rat, x = 0 ∨ x = 1 → ¬ 1 < ab x := fun x hx => by
      rcases hx with rfl | rfl
      · rw [a0]; decide +kernel
      · rw [a1]; decide +kernel
    rcases (hp p (.head _)).1 with e0 | e0
    · refine .inr fun e => ?_
      have := spr_go r p e2 hr hp (by rw [e0]; unfold Big e2; rw [if_pos rfl]; simp only; rw [a0, a1]; decide +kernel)
      rw [e] at this
      rcases this with z | z
      · exact no _ (.inl rfl) z
      · exact no _ (.inr rfl) z
    · refine .inl fun e => ?_
      have := spr_go r p e1 hr hp (by rw [e0]; unfold Big e1; rw [if_neg (by decide)]; simp only; rw [a0, a1]; decide +kernel)
      rw [e] at this
      rcases this with z | z
      · exact no _ (.inr rfl) z
      · exact no _ (.inl rfl) z
end K37
namespace K37
/-! ### sizes along a row -/
def BV (D A : Nat) (v : Vc) : Prop := Bq D A v.1 ∧ Bq D A v.2
def MB (N : Mx) : Prop := BV 1 16 N.1 ∧ BV 1 16 N.2
theorem bv_dot {D A : Nat} (hD : 0 < D) {r v : Vc} (hr : BV 1 16 r) (hv : BV D A v) : Bq D (32 * A) (vdot r v) := by
  have h1 := hr.1.mul hv.1
  have h2 := hr.2.mul hv.2
  rw [Nat.one_mul] at h1 h2
  exact (Bq.add hD h1 h2).mono (by omega)
theorem bv_mov {D A E M : Nat} (hD : 0 < D) (hE : 0 < E) {N : Mx} {s : Rat} {v : Vc} (hN : MB N) (hs : Bq E M s) (hv : BV D A v) : BV (D * E) (A * (E + 32 * M)) (movV N s v) := by
  have hDE : 0 < D * E := Nat.mul_pos hD hE
  have key : ∀ (x : Rat) (r : Vc), BV 1 16 r → Bq D A x → Bq (D * E) (A * (E + 32 * M)) (x + vdot r v * s) := fun x r hr hx => by
    have h1 := hx.up E hE
    have h2 := (bv_dot hD hr hv).mul hs
    refine (Bq.add hDE h1 h2).mono (Nat.le_of_eq ?_)
    rw [Nat.mul_add]
    congr 1
    rw [Nat.mul_assoc, Nat.mul_left_comm]
  exact ⟨key v.1 N.1 hN.1 hv.1, key v.2 N.2 hN.2 hv.2⟩
theorem flow_bv {Ns : List Mx} {h : Rat} {E M : Nat} (hE : 0 < E) (hN : ∀ p, MB (nm Ns p)) : ∀ (r : Row) (D A : Nat) (v : Vc), 0 < D → (∀ p ∈ r, Bq E M (p.2 * h)) → BV D A v → BV (D * E ^ r.length) (A * (E + 32 * M) ^ r.length) (act (flowE Ns h) r v)
  | [], D, A, v, _, _, hv => by
    show BV (D * 1) (A * 1) v
    rw [Nat.mul_one, Nat.mul_one]; exact hv
  | p :: r, D, A, v, hD, hr, hv => by
    have h1 := bv_mov hD hE (hN p.1) (hr p (.head _)) hv
    have h2 := flow_bv hE hN r _ _ _ (Nat.mul_pos hD hE) (fun q hq => hr q (.tail _ hq)) h1
    rw [act_cons, List.length_cons, Nat.pow_succ', Nat.pow_succ', ← Nat.mul_assoc, ← Nat.mul_assoc]
    exact h2
theorem pow_small {a i b n : Nat} (ha : a ≤ 2 ^ b) (hi : i ≤ n) : a ^ i ≤ 2 ^ (b * n) := by
  refine Nat.le_trans (Nat.pow_le_pow_left ha i) ?_
  rw [← Nat.pow_mul]
  exact Nat.pow_le_pow_right (by decide) (Nat.mul_le_mul_left b hi)
theorem flow_sm {Ns : List Mx} {h : Rat} {E M : Nat} (hE : 0 < E) (hEM : E + 32 * M ≤ 2 ^ 25) (hN : ∀ p, MB (nm Ns p)) {r : Row} {v : Vc} (hl : r.length ≤ 30) (hr : ∀ p ∈ r, Bq E M (p.2 * h)) (hv : BV 1 1 v) (i : Nat) : SmV 900 (act (flowE Ns h) (r.take i) v) := by
  have h1 := flow_bv hE hN (r.take i) 1 1 v (by decide) (fun p hp => hr p (List.mem_of_mem_take hp)) hv
  have hi : (r.take i).length ≤ 30 := by rw [List.length_take]; omega
  rw [Nat.one_mul, Nat.one_mul] at h1
  have a1 := pow_small (a := E) (b := 25) (by omega) hi
  have a2 := pow_small (a := E + 32 * M) (b := 25) hEM hi
  have lt : 2 ^ (25 * 30) < 2 ^ 900 := Nat.pow_lt_pow_right (by decide) (by decide)
  have pos : 0 < E ^ (r.take i).length := Nat.pow_pos hE
  exact ⟨h1.1.sm pos (by omega) (by omega), h1.2.sm pos (by omega) (by omega)⟩
/-! the matrices -/
theorem mb_cell {k : Nat} (h : k < 4) : MB (cellM k) := by
  have q : ∀ n : Int, n.natAbs ≤ 16 → Bq 1 16 (n : Rat) := fun n hn => (Bq.int n).mono hn
  have s : ∀ a b : Int, a.natAbs ≤ 16 → b.natAbs ≤ 16 → BV 1 16 ((a : Rat), (b : Rat)) := fun a b ha hb => ⟨q a ha, q b hb⟩
  rcases (by omega : k = 0 ∨ k = 1 ∨ k = 2 ∨ k = 3) with rfl | rfl | rfl | rfl <;>
    exact ⟨s _ 1 (by decide) (by decide), s _ _ (by decide) (by decide)⟩
theorem mb_zero : MB ((0, 0), (0, 0)) := ⟨⟨Bq.zero, Bq.zero⟩, ⟨Bq.zero, Bq.zero⟩⟩
theorem nm_mem {Ns : List Mx} {Q : Mx → Prop} (h0 : Q ((0, 0), (0, 0))) (h : ∀ N ∈ Ns, Q N) (p : Int) : Q (nm Ns p) := by
  unfold nm
  rw [(List.getD_eq_getElem?_getD)]
  cases e : Ns[p.toNat]? with
  | none => exact h0
  | some N => exact h N (List.mem_of_getElem? e)
theorem mem_cells {m : Nat} {N : Mx} (hm : m ≤ 4) (h : N ∈ cells m) : ∃ k, k < 4 ∧ N = cellM k := by
  obtain ⟨k, hk, rfl⟩ := List.mem_map.mp h
  exact ⟨k, by have := List.mem_range.mp hk; omega, rfl⟩
theorem mb_cells {m : Nat} (hm : m ≤ 4) (p : Int) : MB (nm (cells m) p) := nm_mem mb_zero (fun N h => by
  obtain ⟨k, hk, rfl⟩ := mem_cells hm h
  exact mb_cell hk) p
theorem mb_spr (p : Int) : MB (nm spr p) := nm_mem mb_zero (fun N h => by
  have o : Bq 1 16 1 := (Bq.int 1).mono (by decide)
  rcases (List.mem_cons.mp h) with rfl | h
  · exact ⟨⟨Bq.zero, o⟩, ⟨Bq.zero, Bq.zero⟩⟩
  · rcases (List.mem_cons.mp h) with rfl | h
    · exact ⟨⟨Bq.zero, Bq.zero⟩, ⟨o, Bq.zero⟩⟩
    · cases h) p
theorem nil_cell (k : Nat) : NilM (cellM k) := fun v => by
  have z1 : ((-(1 + (k : Int)) : Int) : Rat) = -(1 + (k : Rat)) := by push_cast; rfl
  have z2 : ((-(1 + (k : Int)) * (1 + (k : Int)) : Int) : Rat) = -(1 + (k : Rat)) * (1 + (k : Rat)) := by push_cast; rfl
  have z3 : ((1 + (k : Int) : Int) : Rat) = 1 + (k : Rat) := by push_cast; rfl
  unfold mv vdot cellM
  simp only [z1, z2, z3]
  generalize (1 + (k : Rat)) = a
  refine Prod.ext ?_ ?_ <;> (simp only; grind)
theorem nil_zero : NilM ((0, 0), (0, 0)) := fun v => by
  unfold mv vdot
  refine Prod.ext ?_ ?_ <;> (simp only; grind)
theorem nil_spr : ∀ N ∈ spr, NilM N := fun N h v => by
  unfold mv vdot
  rcases (List.mem_cons.mp h) with rfl | h
  · refine Prod.ext ?_ ?_ <;> (simp only; grind)
  · rcases (List.mem_cons.mp h) with rfl | h
    · refine Prod.ext ?_ ?_ <;> (simp only; grind)
    · cases h
theorem nil_cells {m : Nat} (hm : m ≤ 4) (p : Int) : NilM (nm (cells m) p) := nm_mem nil_zero (fun N h => by
  obtain ⟨k, hk, rfl⟩ := mem_cells hm h
  exact nil_cell k) p
theorem nil_sprs (p : Int) : NilM (nm spr p) := nm_mem nil_zero nil_spr p
theorem mb_sm {N : Mx} (h : MB N) : SmM 5 N := by
  have : ∀ x : Rat, Bq 1 16 x → Sm 5 x := fun x hx => hx.sm (by decide) (by decide) (by decide)
  exact ⟨⟨this _ h.1.1, this _ h.1.2⟩, ⟨this _ h.2.1, this _ h.2.2⟩⟩
theorem mats_cells {m : Nat} (hm : m ≤ 4) : ∀ N ∈ cells m, SmM 5 N ∧ NilM N := fun N h => by
  obtain ⟨k, hk, rfl⟩ := mem_cells hm h
  exact ⟨mb_sm (mb_cell hk), nil_cell k⟩
theorem mats_spr : ∀ N ∈ spr, SmM 5 N ∧ NilM N := fun N h => by
  refine ⟨?_, nil_spr N h⟩
  have o : Bq 1 16 1 := (Bq.int 1).mono (by decide)
  rcases (List.mem_cons.mp h) with rfl | h
  · exact mb_sm ⟨⟨Bq.zero, o⟩, ⟨Bq.zero, Bq.zero⟩⟩
  · rcases (List.mem_cons.mp h) with rfl | h
    · exact mb_sm ⟨⟨Bq.zero, Bq.zero⟩, ⟨o, Bq.zero⟩⟩
    · cases h
/-- a row of small numbers on so many parts -/
structure RowS (m N : Nat) (r : Row) : Prop where
  len : r.length ≤ 30
  parts : ∀ p ∈ r, 0 ≤ p.1 ∧ p.1 < m
  xs : ∀ p ∈ r, Bq 6 N p.2
theorem flow_ok {Ns : List Mx} {m N e μ : Nat} {h : Rat} {r : Row} {v : Vc} (few : Ns.length ≤ 10) (mats : ∀ N ∈ Ns, SmM 5 N ∧ NilM N) (hN : ∀ p, MB (nm Ns p)) (hm : m ≤ Ns.length) (hr : RowS m N r) (he : 0 < e) (hh : Bq e μ h) (hs : 6 * e + 32 * (N * μ) ≤ 2 ^ 25) (hμ : μ ≤ 2 ^ 25) (hn : N ≤ 2 ^ 25) (hv : BV 1 1 v) : FlowOk Ns h r v where
  few := few
  mats := mats
  parts := fun p hp => by
    have := hr.parts p hp
    omega
  len := by have := hr.len; omega
  xs := fun p hp => by
    have lt : ∀ {a n : Nat}, a ≤ 2 ^ 25 → 25 < n → a < 2 ^ n := fun ha hn => Nat.lt_of_le_of_lt ha (Nat.pow_lt_pow_right (by decide) hn)
    refine ⟨(hr.xs p hp).sm (by decide) (lt (by decide) (by decide)) (lt hn (by decide)), ((hr.xs p hp).mul hh).sm (by omega) (lt (by omega) (by decide)) (lt (by omega) (by decide))⟩
  sh := by
    have lt : ∀ {a n : Nat}, a ≤ 2 ^ 25 → 25 < n → a < 2 ^ n := fun ha hn => Nat.lt_of_le_of_lt ha (Nat.pow_lt_pow_right (by decide) hn)
    exact hh.sm he (lt (by omega) (by decide)) (lt hμ (by decide))
  runs := fun i _ => flow_sm (E := 6 * e) (M := N * μ) (by omega) hs hN hr.len (fun p hp => (hr.xs p hp).mul hh) hv i
theorem bv_e1 : BV 1 1 e1 := ⟨(Bq.int 1).mono (by decide), Bq.zero⟩
theorem bv_e2 : BV 1 1 e2 := ⟨Bq.zero, (Bq.int 1).mono (by decide)⟩
/-! ### sizes of a table -/
def BT (n D A : Nat) (f : SeqT) : Prop := (∀ k, n ≤ k → f k = ((0, 0), (0, 0))) ∧ ∀ k, BV D A (f k).1 ∧ BV D A (f k).2
theorem vad_zero0 (N : Mx) (x : Rat) : vad (0, 0) (vsc x (mv N (0, 0))) = (0, 0) := by
  rw [mv_zero, vsc_zero, vad_zero]
theorem bt_step {n D A M : Nat} (hD : 0 < D) {N : Mx} (hN : MB N) {x : Rat} (hx : Bq 6 M x) {Ns : List Mx} {p : Int} (e : nm Ns p = N) {f : SeqT} (h : BT n D A f) (hn : 0 < n) : BT (n + 1) (D * 6) (A * (6 + 32 * M)) (seqE Ns p x f) := by
  have key : ∀ (v w : Vc), BV D A v → BV D A w → BV (D * 6) (A * (6 + 32 * M)) (vad v (vsc x (mv N w))) := fun v w hv hw => by
    have one : ∀ (y : Rat) (r : Vc), BV 1 16 r → Bq D A y → Bq (D * 6) (A * (6 + 32 * M)) (y + vdot r w * x) := fun y r hr hy => by
      have h1 := hy.up 6 (by decide)
      have h2 := (bv_dot hD hr hw).mul hx
      refine (Bq.add (by omega) h1 h2).mono (Nat.le_of_eq ?_)
      rw [Nat.mul_add]
      congr 1
      rw [Nat.mul_assoc, Nat.mul_left_comm]
    exact ⟨one v.1 N.1 hN.1 hv.1, one v.2 N.2 hN.2 hv.2⟩
  have up : ∀ v, BV D A v → BV (D * 6) (A * (6 + 32 * M)) v := fun v hv => by
    have := fun y (hy : Bq D A y) => (hy.up 6 (by decide)).mono (Nat.mul_le_mul_left A (by omega : 6 ≤ 6 + 32 * M))
    exact ⟨this _ hv.1, this _ hv.2⟩
  refine ⟨fun k hk => ?_, fun k => ?_⟩
  · match k, hk with
    | k + 1, hk =>
      show (vad (f (k + 1)).1 (vsc x (mv (nm Ns p) (f k).1)), vad (f (k + 1)).2 (vsc x (mv (nm Ns p) (f k).2))) = _
      rw [h.1 (k + 1) (by omega), h.1 k (by omega)]
      show (vad (0, 0) (vsc x (mv (nm Ns p) (0, 0))), vad (0, 0) (vsc x (mv (nm Ns p) (0, 0)))) = _
      rw [vad_zero0]
  · cases k with
    | zero => exact ⟨up _ (h.2 0).1, up _ (h.2 0).2⟩
    | succ k =>
      show BV _ _ (vad (f (k + 1)).1 (vsc x (mv (nm Ns p) (f k).1))) ∧ BV _ _ (vad (f (k + 1)).2 (vsc x (mv (nm Ns p) (f k).2)))
      rw [e]
      exact ⟨key _ _ (h.2 _).1 (h.2 _).1, key _ _ (h.2 _).2 (h.2 _).2⟩
theorem bt_act {Ns : List Mx} {M : Nat} (hN : ∀ p, MB (nm Ns p)) : ∀ (r : Row) (n D A : Nat) (f : SeqT), 0 < D → 0 < n → (∀ p ∈ r, Bq 6 M p.2) → BT n D A f → BT (n + r.length) (D * 6 ^ r.length) (A * (6 + 32 * M) ^ r.length) (act (seqE Ns) r f)
  | [], n, D, A, f, _, _, _, h => by
    show BT n (D * 1) (A * 1) f
    rw [Nat.mul_one, Nat.mul_one]; exact h
  | p :: r, n, D, A, f, hD, hn, hr, h => by
    have h1 := bt_step hD (hN p.1) (hr p (.head _)) (Ns := Ns) (p := p.1) rfl h hn
    have h2 := bt_act hN r _ _ _ _ (by omega) (by omega) (fun q hq => hr q (.tail _ hq)) h1
    rw [act_cons, List.length_cons, Nat.pow_succ', Nat.pow_succ', ← Nat.mul_assoc, ← Nat.mul_assoc, Nat.add_comm r.length 1, ← Nat.add_assoc]
    exact h2
theorem bt_IT : BT 1 1 1 (cfT IT) := by
  have o : Bq 1 1 (1 : Rat) := (Bq.int 1).mono (by decide)
  have c1 : ∀ k, cf [1] (k + 1) = 0 := fun k => by unfold cf; simp
  refine ⟨fun k hk => ?_, fun k => ?_⟩
  · match k, hk with
    | k + 1, _ =>
      show ((cf [1] (k + 1), cf [] (k + 1)), (cf [] (k + 1), cf [1] (k + 1))) = _
      rw [c1, cf_nil]
  · cases k with
    | zero => exact ⟨⟨o, Bq.zero⟩, ⟨Bq.zero, o⟩⟩
    | succ k =>
      show BV 1 1 (cf [1] (k + 1), cf [] (k + 1)) ∧ BV 1 1 (cf [] (k + 1), cf [1] (k + 1))
      rw [c1, cf_nil]
      exact ⟨⟨Bq.zero, Bq.zero⟩, ⟨Bq.zero, Bq.zero⟩⟩
theorem tr_len {p : Po} {n : Nat} (h : Tr p) (hz : ∀ k, n ≤ k → cf p k = 0) : p.length ≤ n := by
  refine Nat.le_of_not_lt fun hlt => ?_
  have := hz (p.length - 1) (by omega)
  unfold cf at this
  rw [List.getD_eq_getElem?_getD, List.getElem?_eq_getElem (by omega)] at this
  exact h p[p.length - 1] (by rw [List.getLast?_eq_getElem?, List.getElem?_eq_getElem (by omega)]) this
theorem mem_cf {p : Po} {c : Rat} (h : c ∈ p) : ∃ k, cf p k = c := by
  obtain ⟨k, hk, e⟩ := List.getElem_of_mem h
  refine ⟨k, ?_⟩
  unfold cf
  rw [List.getD_eq_getElem?_getD, List.getElem?_eq_getElem hk, e]; rfl
theorem tab_sm {Ns : List Mx} {M : Nat} (hM : 6 + 32 * M ≤ 2 ^ 25) (hN : ∀ p, MB (nm Ns p)) {r : Row} (hl : r.length ≤ 30) (hr : ∀ p ∈ r, Bq 6 M p.2) (i : Nat) : SmT 100 900 (act (tabE Ns) (r.take i) IT) := by
  have hi : (r.take i).length ≤ 30 := by rw [List.length_take]; omega
  have h := bt_act hN (r.take i) 1 1 1 _ (by decide) (by decide) (fun p hp => hr p (List.mem_of_mem_take hp)) bt_IT
  rw [← cf_act, Nat.one_mul, Nat.one_mul] at h
  have tr := tr_tab Ns (r.take i) IT tr_IT
  generalize act (tabE Ns) (r.take i) IT = t at *
  have a1 := pow_small (a := 6) (b := 25) (by decide) hi
  have a2 := pow_small (a := 6 + 32 * M) (b := 25) hM hi
  have lt : 2 ^ (25 * 30) < 2 ^ 900 := Nat.pow_lt_pow_right (by decide) (by decide)
  have pos : 0 < 6 ^ (r.take i).length := Nat.pow_pos (by decide)
  have one : ∀ p : Po, Tr p → (∀ k, 1 + (r.take i).length ≤ k → cf p k = 0) → (∀ k, Bq (6 ^ (r.take i).length) ((6 + 32 * M) ^ (r.take i).length) (cf p k)) → SmP 100 900 p := fun p hp hz hb => by
    refine ⟨Nat.le_trans (tr_len hp hz) (by omega), fun c hc => ?_⟩
    obtain ⟨k, rfl⟩ := mem_cf hc
    exact (hb k).sm pos (by omega) (by omega)
  refine ⟨⟨?_, ?_⟩, ⟨?_, ?_⟩⟩
  · exact one _ tr.1.1 (fun k hk => congrArg (fun z : Vc × Vc => z.1.1) (h.1 k hk)) fun k => (h.2 k).1.1
  · exact one _ tr.1.2 (fun k hk => congrArg (fun z : Vc × Vc => z.2.1) (h.1 k hk)) fun k => (h.2 k).2.1
  · exact one _ tr.2.1 (fun k hk => congrArg (fun z : Vc × Vc => z.1.2) (h.1 k hk)) fun k => (h.2 k).1.2
  · exact one _ tr.2.2 (fun k hk => congrArg (fun z : Vc × Vc => z.2.2) (h.1 k hk)) fun k => (h.2 k).2.2
theorem tab_ok {m N : Nat} {r : Row} (hm : m ≤ 4) (h0 : 0 < m) (hr : RowS m N r) (hn : 6 + 32 * N ≤ 2 ^ 25) : TabOk (cells m) r where
  few := by unfold cells; rw [List.length_map, List.length_range]; omega
  some_ := by unfold cells; rw [List.length_map, List.length_range]; omega
  mats := mats_cells hm
  parts := fun p hp => by
    have := hr.parts p hp
    unfold cells; rw [List.length_map, List.length_range]; omega
  len := by have := hr.len; omega
  xs := fun p hp => by
    have lt : ∀ {a n : Nat}, a ≤ 2 ^ 25 → 25 < n → a < 2 ^ n := fun ha hn => Nat.lt_of_le_of_lt ha (Nat.pow_lt_pow_right (by decide) hn)
    exact (hr.xs p hp).sm (by decide) (lt (by decide) (by decide)) (lt (by omega) (by decide))
  runs := fun i _ => tab_sm hn (mb_cells hm) hr.len hr.xs i
end K37
namespace K37
open PySem
/-! ### the runs -/
theorem abs_ab (x : Rat) : x.abs = ab x := by
  unfold Rat.abs ab
  split <;> split <;> grind
theorem ab_zero {x : Rat} (h : x ≠ 0) : 0 < ab x := by unfold ab; grind
/-- the sixth is the least -/
theorem bq_ab {M : Nat} {x : Rat} (h : Bq 6 M x) (hx : x ≠ 0) : ∃ k : Nat, 0 < k ∧ k ≤ M ∧ ab x = (k : Rat) / 6 := by
  obtain ⟨k, e, b⟩ := h
  have e2 : x = (k : Rat) / 6 := by rw [e]; exact Rat.divInt_eq_div k 6
  have hk : k ≠ 0 := fun z => hx (by rw [e2, z]; decide +kernel)
  refine ⟨k.natAbs, by omega, b, ?_⟩
  by_cases hn : k < 0
  · have h1 : ((k.natAbs : Nat) : Int) = -k := by omega
    have h2 : ((k.natAbs : Nat) : Rat) = -(k : Rat) := by
      rw [← Rat.intCast_natCast, h1, Rat.intCast_neg]
    have h3 : (k : Rat) < 0 := by exact_mod_cast hn
    unfold ab
    rw [h2, e2]
    grind
  · have h1 : ((k.natAbs : Nat) : Int) = k := by omega
    have h2 : ((k.natAbs : Nat) : Rat) = (k : Rat) := by
      rw [← Rat.intCast_natCast, h1]
    have h3 : (0 : Rat) ≤ (k : Rat) := by
      have : (0 : Int) ≤ k := by omega
      exact_mod_cast this
    unfold ab
    rw [h2, e2]
    grind
theorem six_le {k : Nat} (h : 0 < k) : (1 : Rat) / 6 ≤ (k : Rat) / 6 := by
  have : (1 : Rat) ≤ (k : Rat) := by exact_mod_cast h
  grind
/-! the least of a row -/
theorem less_fold : ∀ (r : Row) (a : Rat), (r.foldl lessA a ≤ a) ∧ (∀ p ∈ r, r.foldl lessA a ≤ ab p.2) ∧ (r.foldl lessA a = a ∨ ∃ p ∈ r, r.foldl lessA a = ab p.2)
  | [], a => ⟨Rat.le_refl, fun p h => by (cases h), .inl rfl⟩
  | p :: r, a => by
    obtain ⟨h1, h2, h3⟩ := less_fold r (lessA a p)
    have e : lessA a p = if ab p.2 < a then ab p.2 else a := by unfold lessA; rw [abs_ab]
    rw [List.foldl_cons]
    refine ⟨?_, fun q hq => ?_, ?_⟩
    · rw [e] at h1
      grind
    · cases hq with
      | head => rw [e] at h1; grind
      | tail _ hq => exact h2 q hq
    · rcases h3 with h3 | ⟨q, hq, h3⟩
      · rw [h3, e]
        by_cases z : ab p.2 < a
        · exact .inr ⟨p, .head _, if_pos z⟩
        · exact .inl (if_neg z)
      · exact .inr ⟨q, .tail _ hq, h3⟩
theorem minA_facts {r : Row} (h : r ≠ []) : (∀ p ∈ r, minA r ≤ ab p.2) ∧ ∃ p ∈ r, minA r = ab p.2 := by
  match r, h with
  | p :: r, _ =>
    obtain ⟨h1, h2, h3⟩ := less_fold (p :: r) p.2.abs
    refine ⟨h2, ?_⟩
    rcases h3 with h3 | h3
    · exact ⟨p, .head _, by show (p :: r).foldl lessA p.2.abs = _; rw [h3, abs_ab]⟩
    · exact h3
theorem red_nz {r : Row} (h : Red r) : ∀ p ∈ r, p.2 ≠ 0 := by
  induction r with
  | nil => intro p hp; cases hp
  | cons q r ih =>
    intro p hp
    cases hp with
    | head => exact h.head
    | tail _ hp => exact ih h.tail p hp
/-! the parts of what is left -/
theorem push_parts {s : Row} {p : Int × Rat} : ∀ q ∈ push s p, (∃ u ∈ s, u.1 = q.1) ∨ q.1 = p.1 := by
  cases s with
  | nil =>
    rw [push_nil]
    split
    · intro q hq; cases hq
    · intro q hq; rw [List.mem_singleton.mp hq]; exact .inr rfl
  | cons u t =>
    rw [push_cons]
    split
    · split
      · exact fun q hq => .inl ⟨q, .tail _ hq, rfl⟩
      · intro q hq
        cases hq with
        | head => exact .inr rfl
        | tail _ hq => exact .inl ⟨q, .tail _ hq, rfl⟩
    · split
      · exact fun q hq => .inl ⟨q, hq, rfl⟩
      · intro q hq
        cases hq with
        | head => exact .inr rfl
        | tail _ hq => exact .inl ⟨q, hq, rfl⟩
theorem fold_parts : ∀ (r s : Row), ∀ q ∈ r.foldl push s, (∃ u ∈ s, u.1 = q.1) ∨ ∃ u ∈ r, u.1 = q.1
  | [], s, q, hq => .inl ⟨q, hq, rfl⟩
  | p :: r, s, q, hq => by
    rcases fold_parts r (push s p) q hq with ⟨u, hu, e⟩ | ⟨u, hu, e⟩
    · rcases push_parts u hu with ⟨w, hw, e2⟩ | e2
      · exact .inl ⟨w, hw, e2.trans e⟩
      · exact .inr ⟨p, .head _, e2.symm.trans e⟩
    · exact .inr ⟨u, .tail _ hu, e⟩
theorem nf_parts (r : Row) : ∀ q ∈ nf r, ∃ u ∈ r, u.1 = q.1 := fun q hq => by
  rcases fold_parts r [] q (List.mem_reverse.mp hq) with ⟨u, hu, _⟩ | h
  · cases hu
  · exact h
theorem rest_parts (r s : Row) : ∀ q ∈ restR r s, ∃ u ∈ r ++ s, u.1 = q.1 := fun q hq => by
  obtain ⟨u, hu, e⟩ := nf_parts _ q hq
  rcases List.mem_append.mp hu with h | h
  · exact ⟨u, List.mem_append_left _ h, e⟩
  · obtain ⟨w, hw, rfl⟩ := List.mem_map.mp h
    exact ⟨w, List.mem_append_right _ (List.mem_reverse.mp hw), e⟩
theorem RowS.q {m N : Nat} {r : Row} (h : RowS m N r) : RowQ N r := ⟨by have := h.len; omega, h.xs⟩
theorem rest_qs {m N : Nat} {r s : Row} (hr : RowS m N r) (hs : RowS m N s) : RowQ (N * 60) (restR r s) := nf_q (join_q hr.q hs.q (by have := hr.len; have := hs.len; omega))
theorem rest_red (r s : Row) : Red (restR r s) := red_nf _
/-! the step -/
theorem step_ne {t : Row} (h : t ≠ []) : stepQ t = 2 / minA t := by
  cases t with
  | nil => exact absurd rfl h
  | cons p t => rfl
theorem step_facts {t : Row} {M : Nat} (h : t ≠ []) (hr : Red t) (hq : ∀ p ∈ t, Bq 6 M p.2) : (∃ e, 0 < e ∧ e ≤ M ∧ Bq e 12 (stepQ t) ∧ Bq e 36 (stepQ t * 3)) ∧ ∀ p ∈ t, 2 ≤ ab (p.2 * stepQ t) ∧ 2 ≤ ab (p.2 * (stepQ t * 3)) := by
  obtain ⟨h1, p, hp, h2⟩ := minA_facts h
  obtain ⟨k, k0, kM, ek⟩ := bq_ab (hq p hp) (red_nz hr p hp)
  have kr : (0 : Rat) < (k : Rat) := by exact_mod_cast k0
  have es : stepQ t = 12 / (k : Rat) := by
    rw [step_ne h, h2, ek]
    grind
  have e3 : stepQ t * 3 = 36 / (k : Rat) := by rw [es]; grind
  have d : ∀ c : Int, Rat.divInt c (k : Int) = (c : Rat) / (k : Rat) := fun c => by rw [Rat.divInt_eq_div]; rfl
  refine ⟨⟨k, k0, kM, ⟨12, by rw [es, d]; rfl, by decide⟩, ⟨36, by rw [e3, d]; rfl, by decide⟩⟩, fun q hqt => ?_⟩
  have hm := h1 q hqt
  rw [h2, ek] at hm
  have pos : (0 : Rat) < 12 / (k : Rat) := by
    rw [Rat.div_def]
    exact Rat.mul_pos (by decide +kernel) (Rat.inv_pos.mpr kr)
  have main : 2 ≤ ab q.2 * (12 / (k : Rat)) := by
    have := Rat.mul_le_mul_of_nonneg_right hm (Rat.le_of_lt pos)
    have e : (k : Rat) / 6 * (12 / (k : Rat)) = 2 := by grind
    rw [e] at this
    exact this
  have ap : ab (12 / (k : Rat)) = 12 / (k : Rat) := by unfold ab; grind
  have ap3 : ab (12 / (k : Rat) * 3) = 12 / (k : Rat) * 3 := by unfold ab; grind
  rw [ab_mul, ab_mul, es, ap, ap3]
  refine ⟨main, ?_⟩
  have : ab q.2 * (12 / (k : Rat) * 3) = 3 * (ab q.2 * (12 / (k : Rat))) := by grind
  rw [this]
  grind
/-! which parts there are -/
theorem last_le {l : List Int} {m : Int} (h : l.Pairwise (· < ·)) (e : l.getLast? = some m) : ∀ x ∈ l, x ≤ m := by
  induction l with
  | nil => cases e
  | cons y l ih =>
    intro x hx
    cases l with
    | nil =>
      have : y = m := by simpa using e
      rw [List.mem_singleton.mp hx, this]; exact Int.le_refl _
    | cons z l =>
      have e' : (z :: l).getLast? = some m := by rw [List.getLast?_cons_cons] at e; exact e
      have h2 := List.pairwise_cons.mp h
      cases hx with
      | head =>
        have := h2.1 m (List.mem_of_getLast? e')
        omega
      | tail _ hx => exact ih h2.2 e' x hx
theorem parts_last {r : Row} (h : r ≠ []) : ∃ m : Int, (partsI r).getLast? = some m ∧ (∃ p ∈ r, p.1 = m) ∧ ∀ p ∈ r, p.1 ≤ m := by
  unfold partsI
  cases e : (sortU (r.map (·.1))).getLast? with
  | none =>
    rw [List.getLast?_eq_none_iff] at e
    match r, h with
    | p :: r, _ =>
      have : p.1 ∈ sortU ((p :: r).map (·.1)) := mem_sortU.mpr (List.mem_cons_self)
      rw [e] at this; cases this
  | some m =>
    refine ⟨m, rfl, ?_, fun p hp => last_le (sortU_up _) e p.1 (mem_sortU.mpr (List.mem_map_of_mem hp))⟩
    obtain ⟨p, hp, e2⟩ := List.mem_map.mp (mem_sortU.mp (List.mem_of_getLast? e))
    exact ⟨p, hp, e2⟩
theorem least_of {P : Nat → Prop} : ∀ n, P n → ∃ k, k ≤ n ∧ P k ∧ ∀ i, i < k → ¬ P i := fun n => by induction n using Nat.strongRecOn with
  | ind n ih =>
    intro h
    by_cases z : ∃ i, i < n ∧ P i
    · obtain ⟨i, hi, pi⟩ := z
      obtain ⟨k, hk, a, b⟩ := ih i hi pi
      exact ⟨k, by omega, a, b⟩
    · exact ⟨n, Nat.le_refl _, h, fun i hi pi => z ⟨i, hi, pi⟩⟩
/-! flows alike or not -/
theorem run_none {Ns : List Mx} {h : Rat} {r s : Row} (e : runW Ns h r s = none) : act (flowE Ns h) r e1 = act (flowE Ns h) s e1 ∧ act (flowE Ns h) r e2 = act (flowE Ns h) s e2 := by
  unfold runW at e
  split at e
  · cases e
  · rename_i h1
    split at e
    · cases e
    · rename_i h2
      exact ⟨Decidable.not_not.mp h1, Decidable.not_not.mp h2⟩
theorem spr_run {r s : Row} {h : Rat} (hn : restR r s ≠ []) (hp : ∀ q ∈ restR r s, (q.1 = 0 ∨ q.1 = 1) ∧ 2 ≤ ab (q.2 * h)) : ¬ (act (flowE spr h) r e1 = act (flowE spr h) s e1 ∧ act (flowE spr h) r e2 = act (flowE spr h) s e2) := by
  rintro ⟨a, b⟩
  have A := flow_acts nil_sprs h
  rcases spr_part hn (rest_red r s) hp with z | z
  · exact z (act_rest A r s e1 a)
  · exact z (act_rest A r s e2 b)
theorem cells_run {r s : Row} {h : Rat} {m : Nat} (hm : m ≤ 4) (hn : restR r s ≠ []) (hp : ∀ q ∈ restR r s, 0 ≤ q.1 ∧ q.1 < m ∧ 20 ≤ ab (q.2 * h)) : act (flowE (cells m) h) r e2 ≠ act (flowE (cells m) h) s e2 := fun a =>
  cells_part hm hn (rest_red r s) hp (act_rest (flow_acts (nil_cells hm) h) r s e2 a)
theorem far_120 {M : Nat} {x : Rat} (h : Bq 6 M x) (hx : x ≠ 0) : 20 ≤ ab (x * ((120 : Int) : Rat)) := by
  obtain ⟨k, k0, _, ek⟩ := bq_ab h hx
  have := six_le k0
  rw [ab_mul, ek]
  have e : ab ((120 : Int) : Rat) = 120 := by decide +kernel
  rw [e]
  grind
/-- the tables tell the rows apart -/
theorem tab_iff {m N : Nat} (hm : m ≤ 4) {r s : Row} (hr : RowS m N r) (hs : RowS m N s) : act (tabE (cells m)) r IT = act (tabE (cells m)) s IT ↔ restR r s = [] := by
  constructor
  · intro e
    refine Decidable.byContradiction fun hn => ?_
    refine cells_run hm hn (h := ((120 : Int) : Rat)) (fun q hq => ?_) (tab_flow e _).2
    obtain ⟨u, hu, eu⟩ := rest_parts r s q hq
    have hp : 0 ≤ u.1 ∧ u.1 < m := by
      rcases List.mem_append.mp hu with z | z
      · exact hr.parts u z
      · exact hs.parts u z
    exact ⟨by omega, by omega, far_120 ((rest_qs hr hs).2 q hq) (red_nz (rest_red r s) q hq)⟩
  · exact tab_same (nil_cells hm)
/-- a run is found -/
theorem run_for {m : Nat} (hm : m ≤ 4) {r s : Row} (hr : RowS m 18 r) (hs : RowS m 18 s) : ∃ d, RunFor r s d ∧ ((restR r s = [] ∧ d = .none) ∨ (restR r s ≠ [] ∧ ∃ xs, d = .tuple xs)) := by
  by_cases hn : restR r s = []
  · exact ⟨.none, .inl ⟨hn, rfl⟩, .inl ⟨hn, rfl⟩⟩
  have hq := (rest_qs hr hs).2
  have hz := red_nz (rest_red r s)
  have all : ∀ u ∈ r ++ s, 0 ≤ u.1 ∧ u.1 < m := fun u hu => by
    rcases List.mem_append.mp hu with z | z
    · exact hr.parts u z
    · exact hs.parts u z
  have hne : r ++ s ≠ [] := fun z => by
    obtain ⟨rfl, rfl⟩ := List.append_eq_nil_iff.mp z
    exact hn rfl
  obtain ⟨mm, el, ⟨pm, hpm, epm⟩, hle⟩ := parts_last hne
  have hmm := all pm hpm
  by_cases h2 : mm < 2
  · obtain ⟨⟨e, e0, eM, b1, b3⟩, far⟩ := step_facts hn (rest_red r s) hq
    have ok : RunOk spr (stepQ (restR r s)) r s := by
      have small : ∀ t : Row, RowS m 18 t → (∀ u ∈ t, u ∈ r ++ s) → ∀ v, BV 1 1 v → FlowOk spr (stepQ (restR r s)) t v := fun t ht sub v hv => by
        refine flow_ok (m := 2) (N := 18) (e := e) (μ := 12) (by decide) mats_spr mb_spr (by decide) ⟨ht.len, fun p hp => ?_, ht.xs⟩ e0 b1 (by omega) (by decide) (by decide) hv
        have := all p (sub p hp)
        have := hle p (sub p hp)
        omega
      have sr := small r hr fun u hu => List.mem_append_left _ hu
      have ss := small s hs fun u hu => List.mem_append_right _ hu
      exact ⟨sr e1 bv_e1, sr e2 bv_e2, ss e1 bv_e1, ss e2 bv_e2⟩
    have hw : runW spr (stepQ (restR r s)) r s ≠ none := fun e => by
      refine spr_run hn (fun q hqr => ⟨?_, (far q hqr).1⟩) (run_none e)
      obtain ⟨u, hu, eu⟩ := rest_parts r s q hqr
      have := all u hu
      have := hle u hu
      omega
    refine ⟨_, .inr (.inl ⟨hn, mm, el, h2, ok, rfl⟩), .inr ⟨hn, ?_⟩⟩
    cases ew : runW spr (stepQ (restR r s)) r s with
    | none => exact absurd ew hw
    | some v => exact ⟨_, rfl⟩
  · have em : ((mm.toNat : Nat) : Int) = mm := by omega
    have c4 : mm.toNat + 1 ≤ 4 := by omega
    have ok : ∀ i : Nat, 1 ≤ i → i ≤ 120 → RunOk (cells (mm.toNat + 1)) ((i : Int) : Rat) r s := fun i h1 h3 => by
      have bi : Bq 1 120 ((i : Int) : Rat) := (Bq.int (i : Int)).mono (by omega)
      have lc : (cells (mm.toNat + 1)).length = mm.toNat + 1 := by unfold cells; rw [List.length_map, List.length_range]
      have small : ∀ t : Row, RowS m 18 t → (∀ u ∈ t, u ∈ r ++ s) → ∀ v, BV 1 1 v → FlowOk (cells (mm.toNat + 1)) ((i : Int) : Rat) t v := fun t ht sub v hv => by
        refine flow_ok (m := mm.toNat + 1) (N := 18) (e := 1) (μ := 120) (by omega) (mats_cells c4) (mb_cells c4) (by omega) ⟨ht.len, fun p hp => ?_, ht.xs⟩ (by decide) bi (by decide) (by decide) (by decide) hv
        have := all p (sub p hp)
        have := hle p (sub p hp)
        omega
      have sr := small r hr fun u hu => List.mem_append_left _ hu
      have ss := small s hs fun u hu => List.mem_append_right _ hu
      exact ⟨sr e1 bv_e1, sr e2 bv_e2, ss e1 bv_e1, ss e2 bv_e2⟩
    have hw : runW (cells (mm.toNat + 1)) ((120 : Int) : Rat) r s ≠ none := fun e => by
      refine cells_run c4 hn (fun q hqr => ?_) (run_none e).2
      obtain ⟨u, hu, eu⟩ := rest_parts r s q hqr
      have := all u hu
      have := hle u hu
      exact ⟨by omega, by omega, far_120 (hq q hqr) (hz q hqr)⟩
    obtain ⟨n, hn120, hP, hmin⟩ := least_of (P := fun n => 1 ≤ n ∧ runW (cells (mm.toNat + 1)) (((n : Nat) : Int) : Rat) r s ≠ none) 120 ⟨by decide, hw⟩
    cases ew : runW (cells (mm.toNat + 1)) (((n : Nat) : Int) : Rat) r s with
    | none => exact absurd ew hP.2
    | some v =>
      refine ⟨_, .inr (.inr ⟨hn, mm.toNat, by rw [em]; exact el, by omega, by omega, n, v, hP.1, by omega, fun i h1 h3 => ok i h1 (by omega), fun i h1 h3 => ?_, ew, rfl⟩), .inr ⟨hn, _, rfl⟩⟩
      exact Decidable.byContradiction fun z => hmin i h3 ⟨h1, z⟩
end K37
namespace K37
open PySem
/-! ### words of one, two, three letters -/
def wE1 (a : Int) (p : Int) (x : Rat) (f : Rat) : Rat := if a = p then f + x else f
def wE2 (a b : Int) (p : Int) (x : Rat) (f : Rat × Rat) : Rat × Rat := (wE1 a p x f.1, if b = p then f.2 + f.1 * x + (if a = p then x * x / 2 else 0) else f.2)
def wE3 (a b c : Int) (p : Int) (x : Rat) (f : (Rat × Rat) × Rat) : (Rat × Rat) × Rat :=
  (wE2 a b p x f.1, if c = p then f.2 + f.1.2 * x + (if b = p then f.1.1 * (x * x / 2) + (if a = p then x * x * x / 6 else 0) else 0) else f.2)
def W1 (a : Int) (r : Row) : Rat := act (wE1 a) r 0
def W2 (a b : Int) (r : Row) : Rat := (act (wE2 a b) r (0, 0)).2
def W3 (a b c : Int) (r : Row) : Rat := (act (wE3 a b c) r ((0, 0), 0)).2
theorem wor1 (a : Int) (f : Rat) (p : Int × Rat) : worL [a] [1, f] p = [1, wE1 a p.1 p.2 f] := by
  obtain ⟨p, x⟩ := p
  show [(1 : Rat), if a = p then f + 1 * (1 * (x / ((1 : Int) : Rat))) else f] = _
  congr 2
  unfold wE1
  split <;> grind
theorem wor2 (a b : Int) (f : Rat × Rat) (p : Int × Rat) : worL [a, b] [1, f.1, f.2] p = [1, (wE2 a b p.1 p.2 f).1, (wE2 a b p.1 p.2 f).2] := by
  obtain ⟨p, x⟩ := p
  obtain ⟨f1, f2⟩ := f
  show [(1 : Rat), (if a = p then f1 + 1 * (1 * (x / ((1 : Int) : Rat))) else f1),
    (if b = p then (if a = p then f2 + f1 * (1 * (x / ((1 : Int) : Rat))) + 1 * (1 * (x / ((1 : Int) : Rat)) * (x / ((2 : Int) : Rat))) else f2 + f1 * (1 * (x / ((1 : Int) : Rat)))) else f2)] = _
  unfold wE2 wE1
  congr 2
  · split <;> grind
  · congr 1
    split <;> (try split) <;> grind
theorem wor3 (a b c : Int) (f : (Rat × Rat) × Rat) (p : Int × Rat) : worL [a, b, c] [1, f.1.1, f.1.2, f.2] p = [1, (wE3 a b c p.1 p.2 f).1.1, (wE3 a b c p.1 p.2 f).1.2, (wE3 a b c p.1 p.2 f).2] := by
  obtain ⟨p, x⟩ := p
  obtain ⟨⟨f1, f2⟩, f3⟩ := f
  show [(1 : Rat), (if a = p then f1 + 1 * (1 * (x / ((1 : Int) : Rat))) else f1),
    (if b = p then (if a = p then f2 + f1 * (1 * (x / ((1 : Int) : Rat))) + 1 * (1 * (x / ((1 : Int) : Rat)) * (x / ((2 : Int) : Rat))) else f2 + f1 * (1 * (x / ((1 : Int) : Rat)))) else f2),
    (if c = p then (if b = p then (if a = p then f3 + f2 * (1 * (x / ((1 : Int) : Rat))) + f1 * (1 * (x / ((1 : Int) : Rat)) * (x / ((2 : Int) : Rat))) + 1 * (1 * (x / ((1 : Int) : Rat)) * (x / ((2 : Int) : Rat)) * (x / ((3 : Int) : Rat)))
      else f3 + f2 * (1 * (x / ((1 : Int) : Rat))) + f1 * (1 * (x / ((1 : Int) : Rat)) * (x / ((2 : Int) : Rat)))) else f3 + f2 * (1 * (x / ((1 : Int) : Rat)))) else f3)] = _
  unfold wE3 wE2 wE1
  congr 2
  · split <;> grind
  · congr 1
    · split <;> (try split) <;> grind
    · congr 1
      split <;> (try split) <;> (try split) <;> grind
theorem worth1 (a : Int) : ∀ r : Row, worth r [a] = [1, W1 a r] := fun r => by
  have : ∀ (r : Row) (f : Rat), r.foldl (worL [a]) [1, f] = [1, act (wE1 a) r f] := fun r => by
    induction r with
    | nil => intro f; rfl
    | cons p r ih => intro f; rw [List.foldl_cons, wor1, ih]; rfl
  exact this r 0
theorem worth2 (a b : Int) : ∀ r : Row, worth r [a, b] = [1, (act (wE2 a b) r (0, 0)).1, W2 a b r] := fun r => by
  have : ∀ (r : Row) (f : Rat × Rat), r.foldl (worL [a, b]) [1, f.1, f.2] = [1, (act (wE2 a b) r f).1, (act (wE2 a b) r f).2] := fun r => by
    induction r with
    | nil => intro f; rfl
    | cons p r ih => intro f; rw [List.foldl_cons, wor2, ih]; rfl
  exact this r (0, 0)
theorem worth3 (a b c : Int) : ∀ r : Row, worth r [a, b, c] = [1, (act (wE3 a b c) r ((0, 0), 0)).1.1, (act (wE3 a b c) r ((0, 0), 0)).1.2, W3 a b c r] := fun r => by
  have : ∀ (r : Row) (f : (Rat × Rat) × Rat), r.foldl (worL [a, b, c]) [1, f.1.1, f.1.2, f.2] = [1, (act (wE3 a b c) r f).1.1, (act (wE3 a b c) r f).1.2, (act (wE3 a b c) r f).2] := fun r => by
    induction r with
    | nil => intro f; rfl
    | cons p r ih => intro f; rw [List.foldl_cons, wor3, ih]; rfl
  exact this r ((0, 0), 0)
theorem acts1 (a : Int) : Acts (wE1 a) := ⟨fun p f => by unfold wE1; split <;> grind, fun p x y f => by unfold wE1; split <;> grind⟩
theorem acts2 (a b : Int) : Acts (wE2 a b) := ⟨fun p f => by
    unfold wE2
    rw [(acts1 a).zero]
    refine Prod.ext rfl ?_
    simp only
    split <;> (try split) <;> grind, fun p x y f => by
    unfold wE2
    rw [(acts1 a).add]
    refine Prod.ext rfl ?_
    unfold wE1
    simp only
    split <;> (try split) <;> grind⟩
theorem acts3 (a b c : Int) : Acts (wE3 a b c) := ⟨fun p f => by
    unfold wE3
    rw [(acts2 a b).zero]
    refine Prod.ext rfl ?_
    simp only
    split <;> (try split) <;> (try split) <;> grind, fun p x y f => by
    unfold wE3
    rw [(acts2 a b).add]
    refine Prod.ext rfl ?_
    unfold wE2 wE1
    simp only
    by_cases h1 : c = p <;> by_cases h2 : b = p <;> by_cases h3 : a = p <;> simp only [h1, h2, h3, if_true, if_false] <;> grind⟩
theorem W1_nf (a : Int) (r : Row) : W1 a (nf r) = W1 a r := by unfold W1; rw [act_nf (acts1 a)]
theorem W2_nf (a b : Int) (r : Row) : W2 a b (nf r) = W2 a b r := by unfold W2; rw [act_nf (acts2 a b)]
theorem W3_nf (a b c : Int) (r : Row) : W3 a b c (nf r) = W3 a b c r := by unfold W3; rw [act_nf (acts3 a b c)]
/-! a letter that does not stand in the row -/
theorem W1_out {a : Int} {r : Row} (h : ∀ p ∈ r, p.1 ≠ a) (f : Rat) : act (wE1 a) r f = f := by
  induction r generalizing f with
  | nil => rfl
  | cons p r ih =>
    rw [act_cons]
    have : wE1 a p.1 p.2 f = f := if_neg fun z => h p (.head _) z.symm
    rw [this]
    exact ih (fun q hq => h q (.tail _ hq)) f
theorem W2_out {a b : Int} {r : Row} (h : (∀ p ∈ r, p.1 ≠ a) ∨ ∀ p ∈ r, p.1 ≠ b) : W2 a b r = 0 := by
  have : ∀ (r : Row) (f : Rat × Rat), ((∀ p ∈ r, p.1 ≠ a) ∧ f.1 = 0) ∨ (∀ p ∈ r, p.1 ≠ b) → (act (wE2 a b) r f).2 = f.2 := fun r => by
    induction r with
    | nil => intro f _; rfl
    | cons p r ih =>
      intro f hf
      rw [act_cons]
      rcases hf with ⟨h1, h2⟩ | h1
      · have n1 : a ≠ p.1 := fun z => h1 p (.head _) z.symm
        have e : wE2 a b p.1 p.2 f = (f.1, f.2) := by
          unfold wE2 wE1
          rw [if_neg n1, if_neg n1, h2]
          refine Prod.ext rfl ?_
          simp only
          split <;> grind
        rw [e, ih _ (.inl ⟨fun q hq => h1 q (.tail _ hq), h2⟩)]
      · have n1 : b ≠ p.1 := fun z => h1 p (.head _) z.symm
        rw [ih _ (.inr fun q hq => h1 q (.tail _ hq))]
        unfold wE2
        simp only
        rw [if_neg n1]
  rcases h with h | h
  · exact this r (0, 0) (.inl ⟨h, rfl⟩)
  · exact this r (0, 0) (.inr h)
theorem W3_out {a b c : Int} {r : Row} (h : (∀ p ∈ r, p.1 ≠ a) ∨ (∀ p ∈ r, p.1 ≠ b) ∨ ∀ p ∈ r, p.1 ≠ c) : W3 a b c r = 0 := by
  have : ∀ (r : Row) (f : (Rat × Rat) × Rat), ((∀ p ∈ r, p.1 ≠ a) ∧ f.1 = (0, 0)) ∨ ((∀ p ∈ r, p.1 ≠ b) ∧ f.1.2 = 0) ∨ (∀ p ∈ r, p.1 ≠ c) → (act (wE3 a b c) r f).2 = f.2 := fun r => by
    induction r with
    | nil => intro f _; rfl
    | cons p r ih =>
      intro f hf
      obtain ⟨⟨f1, f2⟩, f3⟩ := f
      rw [act_cons]
      rcases hf with ⟨h1, h2⟩ | ⟨h1, h2⟩ | h1
      · have n1 : a ≠ p.1 := fun z => h1 p (.head _) z.symm
        cases h2
        have e : wE3 a b c p.1 p.2 ((0, 0), f3) = ((0, 0), f3) := by
          unfold wE3 wE2 wE1
          simp only [n1, if_false]
          refine Prod.ext (Prod.ext rfl ?_) ?_ <;> simp only
          · split <;> grind
          · split <;> (try split) <;> grind
        rw [e, ih _ (.inl ⟨fun q hq => h1 q (.tail _ hq), rfl⟩)]
      · have n1 : b ≠ p.1 := fun z => h1 p (.head _) z.symm
        have h2' : f2 = 0 := h2
        subst h2'
        rw [ih _ (.inr (.inl ⟨fun q hq => h1 q (.tail _ hq), by unfold wE3 wE2; simp only [n1, if_false]⟩))]
        unfold wE3
        simp only [n1, if_false]
        split <;> grind
      · have n1 : c ≠ p.1 := fun z => h1 p (.head _) z.symm
        rw [ih _ (.inr (.inr fun q hq => h1 q (.tail _ hq)))]
        unfold wE3
        simp only [n1, if_false]
  rcases h with h | h | h
  · exact this r ((0, 0), 0) (.inl ⟨h, rfl⟩)
  · exact this r ((0, 0), 0) (.inr (.inl ⟨h, rfl⟩))
  · exact this r ((0, 0), 0) (.inr (.inr h))
/-! ### the words that are asked, of three parts -/
def good2 : List (Int × Int) := [(0, 1), (0, 2), (1, 2)]
def good3 : List (Int × Int × Int) := [(0, 0, 1), (0, 0, 2), (0, 1, 1), (0, 1, 2), (0, 2, 1), (0, 2, 2), (1, 1, 2), (1, 2, 2)]
def Good (t : Row) : Prop := (∃ a : Int, (a = 0 ∨ a = 1 ∨ a = 2) ∧ W1 a t ≠ 0) ∨ (2 ≤ topOf t ∧ ∃ w ∈ good2, W2 w.1 w.2 t ≠ 0) ∨ (3 ≤ topOf t ∧ ∃ w ∈ good3, W3 w.1 w.2.1 w.2.2 t ≠ 0)
theorem hit_of {t : Row} {n i : Nat} {u ls : List Int} (hn : i < topOf t) (hl : ls ∈ lynS (manyOf t : Nat) (i + 1)) (hu : wordOf (partsI t) ls = u) (e : u.length = i + 1) (hw : (worth t u).getD u.length 0 ≠ 0) : (pword t).isSome = true := by
  unfold pword
  rw [List.findSome?_isSome_iff]
  refine ⟨i, List.mem_range.mpr hn, ?_⟩
  unfold tryN
  rw [List.findSome?_isSome_iff]
  refine ⟨ls, hl, ?_⟩
  unfold tryW
  rw [hu]
  have : hitB t (i + 1) u = true := by
    unfold hitB
    rw [decide_eq_true e, decide_eq_false hw]; rfl
  rw [if_pos this]; rfl
def subs (b0 b1 b2 : Bool) : List Int := (if b0 then [0] else []) ++ (if b1 then [1] else []) ++ (if b2 then [2] else [])
theorem parts_sub {t : Row} (h : ∀ p ∈ t, p.1 = 0 ∨ p.1 = 1 ∨ p.1 = 2) : partsI t = subs (decide (0 ∈ partsI t)) (decide (1 ∈ partsI t)) (decide (2 ∈ partsI t)) := by
  have all : ∀ k ∈ partsI t, k = 0 ∨ k = 1 ∨ k = 2 := fun k hk => by
    obtain ⟨p, hp, e⟩ := List.mem_map.mp (mem_sortU.mp hk)
    rw [← e]; exact h p hp
  have up : ∀ b0 b1 b2 : Bool, (subs b0 b1 b2).Pairwise (· < ·) := by decide
  refine up_unique (sortU_up _) (up _ _ _) fun k => ?_
  show k ∈ partsI t ↔ _
  have mem : ∀ b0 b1 b2 : Bool, k ∈ subs b0 b1 b2 ↔ (b0 = true ∧ k = 0) ∨ (b1 = true ∧ k = 1) ∨ (b2 = true ∧ k = 2) := fun b0 b1 b2 => by
    cases b0 <;> cases b1 <;> cases b2 <;> simp [subs]
  rw [mem]
  simp only [decide_eq_true_eq]
  constructor
  · intro hk
    rcases all k hk with rfl | rfl | rfl
    · exact .inl ⟨hk, rfl⟩
    · exact .inr (.inl ⟨hk, rfl⟩)
    · exact .inr (.inr ⟨hk, rfl⟩)
  · rintro (⟨hk, rfl⟩ | ⟨hk, rfl⟩ | ⟨hk, rfl⟩) <;> exact hk
def asked : List (List Int) := [[0], [1], [2], [0, 1], [0, 2], [1, 2], [0, 0, 1], [0, 0, 2], [0, 1, 1], [0, 1, 2], [0, 2, 1], [0, 2, 2], [1, 1, 2], [1, 2, 2]]
theorem asked_ok : ∀ b0 b1 b2 : Bool, ∀ u ∈ asked, (∀ x ∈ u, x ∈ subs b0 b1 b2) → ∃ ls ∈ genL ((max 1 (subs b0 b1 b2).length : Nat) : Int) u.length 900 [0], wordOf (subs b0 b1 b2) ls = u := by
  decide +kernel
theorem found_of {t : Row} {u : List Int} (h : ∀ p ∈ t, p.1 = 0 ∨ p.1 = 1 ∨ p.1 = 2) (ha : u ∈ asked) (h1 : u.length ≤ topOf t) (h2 : ∀ x ∈ u, x ∈ partsI t) (hw : (worth t u).getD u.length 0 ≠ 0) : (pword t).isSome = true := by
  have e := parts_sub h
  obtain ⟨ls, hl, ew⟩ := asked_ok (decide (0 ∈ partsI t)) (decide (1 ∈ partsI t)) (decide (2 ∈ partsI t)) u ha (by rw [← e]; exact h2)
  rw [← e] at hl ew
  have pos : 0 < u.length := by
    have : ∀ u ∈ asked, 0 < u.length := by decide
    exact this u ha
  have en : u.length = (u.length - 1) + 1 := by omega
  refine hit_of (n := 0) (i := u.length - 1) (u := u) (ls := ls) (by omega) ?_ ew en hw
  rw [← en]
  exact List.mem_mergeSort.mpr hl
theorem in_parts {t : Row} {a : Int} (h : ¬ ∀ p ∈ t, p.1 ≠ a) : a ∈ partsI t := by
  refine Decidable.byContradiction fun z => h fun p hp e => z ?_
  exact mem_sortU.mpr (List.mem_map.mpr ⟨p, hp, e⟩)
theorem good_found {t : Row} (h : ∀ p ∈ t, p.1 = 0 ∨ p.1 = 1 ∨ p.1 = 2) (g : Good t) : (pword t).isSome = true := by
  rcases g with ⟨a, ha, hw⟩ | ⟨h2, ⟨a, b⟩, hw2, hw⟩ | ⟨h3, ⟨a, b, c⟩, hw3, hw⟩
  · have i1 : a ∈ partsI t := in_parts fun z => hw (W1_out z 0)
    refine found_of (u := [a]) h ?_ (Nat.le_max_left _ _) (fun x hx => by rw [List.mem_singleton.mp hx]; exact i1) ?_
    · rcases ha with rfl | rfl | rfl <;> decide
    · rw [worth1]; exact hw
  · have i1 : a ∈ partsI t := in_parts fun z => hw (W2_out (.inl z))
    have i2 : b ∈ partsI t := in_parts fun z => hw (W2_out (.inr z))
    refine found_of (u := [a, b]) h ?_ h2 (fun x hx => ?_) ?_
    · have : ∀ w ∈ good2, [w.1, w.2] ∈ asked := by decide
      exact this _ hw2
    · rcases List.mem_cons.mp hx with rfl | hx
      · exact i1
      · rw [List.mem_singleton.mp hx]; exact i2
    · rw [worth2]; exact hw
  · have i1 : a ∈ partsI t := in_parts fun z => hw (W3_out (.inl z))
    have i2 : b ∈ partsI t := in_parts fun z => hw (W3_out (.inr (.inl z)))
    have i3 : c ∈ partsI t := in_parts fun z => hw (W3_out (.inr (.inr z)))
    refine found_of (u := [a, b, c]) h ?_ h3 (fun x hx => ?_) ?_
    · have : ∀ w ∈ good3, [w.1, w.2.1, w.2.2] ∈ asked := by decide
      exact this _ hw3
    · rcases List.mem_cons.mp hx with rfl | hx
      · exact i1
      · rcases List.mem_cons.mp hx with rfl | hx
        · exact i2
        · rw [List.mem_singleton.mp hx]; exact i3
    · rw [worth3]; exact hw
end K37
namespace K37
open PySem
theorem act_nil {V : Type} (E : Int → Rat → V → V) (v : V) : act E [] v = v := rfl
abbrev P3 (p : Int) : Prop := p = 0 ∨ p = 1 ∨ p = 2
theorem sh1 {p1 : Int} {x1 : Rat} (h1 : P3 p1)  (z1 : x1 ≠ 0)
    (a0 : W1 0 [(p1, x1)] = 0)
    (a1 : W1 1 [(p1, x1)] = 0)
    (a2 : W1 2 [(p1, x1)] = 0) : False := by
  unfold W1 at a0 a1 a2
  simp only [act_cons, act_nil] at a0 a1 a2
  rcases h1 with rfl | rfl | rfl
  · simp [wE1] at a0
    grind
  · simp [wE1] at a1
    grind
  · simp [wE1] at a2
    grind
theorem sh2 {p1 p2 : Int} {x1 x2 : Rat} (h1 : P3 p1) (h2 : P3 p2) (n1 : p1 ≠ p2) (z1 : x1 ≠ 0) (z2 : x2 ≠ 0)
    (a0 : W1 0 [(p1, x1), (p2, x2)] = 0)
    (a1 : W1 1 [(p1, x1), (p2, x2)] = 0)
    (a2 : W1 2 [(p1, x1), (p2, x2)] = 0) : False := by
  unfold W1 at a0 a1 a2
  simp only [act_cons, act_nil] at a0 a1 a2
  rcases h1 with rfl | rfl | rfl
  · rcases h2 with rfl | rfl | rfl
    · exact absurd rfl n1
    · simp [wE1] at a0
      grind
    · simp [wE1] at a0
      grind
  · rcases h2 with rfl | rfl | rfl
    · simp [wE1] at a0
      grind
    · exact absurd rfl n1
    · simp [wE1] at a1
      grind
  · rcases h2 with rfl | rfl | rfl
    · simp [wE1] at a0
      grind
    · simp [wE1] at a1
      grind
    · exact absurd rfl n1
theorem sh3 {p1 p2 p3 : Int} {x1 x2 x3 : Rat} (h1 : P3 p1) (h2 : P3 p2) (h3 : P3 p3) (n1 : p1 ≠ p2) (n2 : p2 ≠ p3) (z1 : x1 ≠ 0) (z2 : x2 ≠ 0) (z3 : x3 ≠ 0)
    (a0 : W1 0 [(p1, x1), (p2, x2), (p3, x3)] = 0)
    (a1 : W1 1 [(p1, x1), (p2, x2), (p3, x3)] = 0)
    (a2 : W1 2 [(p1, x1), (p2, x2), (p3, x3)] = 0) : False := by
  unfold W1 at a0 a1 a2
  simp only [act_cons, act_nil] at a0 a1 a2
  rcases h1 with rfl | rfl | rfl
  · rcases h2 with rfl | rfl | rfl
    · exact absurd rfl n1
    · rcases h3 with rfl | rfl | rfl
      · simp [wE1] at a1
        grind
      · exact absurd rfl n2
      · simp [wE1] at a0
        grind
    · rcases h3 with rfl | rfl | rfl
      · simp [wE1] at a2
        grind
      · simp [wE1] at a0
        grind
      · exact absurd rfl n2
  · rcases h2 with rfl | rfl | rfl
    · rcases h3 with rfl | rfl | rfl
      · exact absurd rfl n2
      · simp [wE1] at a0
        grind
      · simp [wE1] at a0
        grind
    · exact absurd rfl n1
    · rcases h3 with rfl | rfl | rfl
      · simp [wE1] at a0
        grind
      · simp [wE1] at a2
        grind
      · exact absurd rfl n2
  · rcases h2 with rfl | rfl | rfl
    · rcases h3 with rfl | rfl | rfl
      · exact absurd rfl n2
      · simp [wE1] at a0
        grind
      · simp [wE1] at a0
        grind
    · rcases h3 with rfl | rfl | rfl
      · simp [wE1] at a0
        grind
      · exact absurd rfl n2
      · simp [wE1] at a1
        grind
    · exact absurd rfl n1
theorem sh4 {p1 p2 p3 p4 : Int} {x1 x2 x3 x4 : Rat} (h1 : P3 p1) (h2 : P3 p2) (h3 : P3 p3) (h4 : P3 p4) (n1 : p1 ≠ p2) (n2 : p2 ≠ p3) (n3 : p3 ≠ p4) (z1 : x1 ≠ 0) (z2 : x2 ≠ 0) (z3 : x3 ≠ 0) (z4 : x4 ≠ 0)
    (a0 : W1 0 [(p1, x1), (p2, x2), (p3, x3), (p4, x4)] = 0)
    (a1 : W1 1 [(p1, x1), (p2, x2), (p3, x3), (p4, x4)] = 0)
    (a2 : W1 2 [(p1, x1), (p2, x2), (p3, x3), (p4, x4)] = 0)
    (b0 : W2 0 1 [(p1, x1), (p2, x2), (p3, x3), (p4, x4)] = 0)
    (b1 : W2 0 2 [(p1, x1), (p2, x2), (p3, x3), (p4, x4)] = 0)
    (b2 : W2 1 2 [(p1, x1), (p2, x2), (p3, x3), (p4, x4)] = 0) : False := by
  unfold W1 at a0 a1 a2
  unfold W2 at b0 b1 b2
  simp only [act_cons, act_nil] at a0 a1 a2 b0 b1 b2
  rcases h1 with rfl | rfl | rfl
  · rcases h2 with rfl | rfl | rfl
    · exact absurd rfl n1
    · rcases h3 with rfl | rfl | rfl
      · rcases h4 with rfl | rfl | rfl
        · exact absurd rfl n3
        · simp [wE1] at a0 a1
          simp [wE1, wE2] at b0
          grind
        · simp [wE1] at a1
          grind
      · exact absurd rfl n2
      · rcases h4 with rfl | rfl | rfl
        · simp [wE1] at a1
          grind
        · simp [wE1] at a0
          grind
        · exact absurd rfl n3
    · rcases h3 with rfl | rfl | rfl
      · rcases h4 with rfl | rfl | rfl
        · exact absurd rfl n3
        · simp [wE1] at a1
          grind
        · simp [wE1] at a0 a2
          simp [wE1, wE2] at b1
          grind
      · rcases h4 with rfl | rfl | rfl
        · simp [wE1] at a1
          grind
        · exact absurd rfl n3
        · simp [wE1] at a0
          grind
      · exact absurd rfl n2
  · rcases h2 with rfl | rfl | rfl
    · rcases h3 with rfl | rfl | rfl
      · exact absurd rfl n2
      · rcases h4 with rfl | rfl | rfl
        · simp [wE1] at a0 a1
          simp [wE1, wE2] at b0
          grind
        · exact absurd rfl n3
        · simp [wE1] at a0
          grind
      · rcases h4 with rfl | rfl | rfl
        · simp [wE1] at a1
          grind
        · simp [wE1] at a0
          grind
        · exact absurd rfl n3
    · exact absurd rfl n1
    · rcases h3 with rfl | rfl | rfl
      · rcases h4 with rfl | rfl | rfl
        · exact absurd rfl n3
        · simp [wE1] at a0
          grind
        · simp [wE1] at a0
          grind
      · rcases h4 with rfl | rfl | rfl
        · simp [wE1] at a0
          grind
        · exact absurd rfl n3
        · simp [wE1] at a1 a2
          simp [wE1, wE2] at b2
          grind
      · exact absurd rfl n2
  · rcases h2 with rfl | rfl | rfl
    · rcases h3 with rfl | rfl | rfl
      · exact absurd rfl n2
      · rcases h4 with rfl | rfl | rfl
        · simp [wE1] at a1
          grind
        · exact absurd rfl n3
        · simp [wE1] at a0
          grind
      · rcases h4 with rfl | rfl | rfl
        · simp [wE1] at a0 a2
          simp [wE1, wE2] at b1
          grind
        · simp [wE1] at a0
          grind
        · exact absurd rfl n3
    · rcases h3 with rfl | rfl | rfl
      · rcases h4 with rfl | rfl | rfl
        · exact absurd rfl n3
        · simp [wE1] at a0
          grind
        · simp [wE1] at a0
          grind
      · exact absurd rfl n2
      · rcases h4 with rfl | rfl | rfl
        · simp [wE1] at a0
          grind
        · simp [wE1] at a1 a2
          simp [wE1, wE2] at b2
          grind
        · exact absurd rfl n3
    · exact absurd rfl n1
theorem sh5 {p1 p2 p3 p4 p5 : Int} {x1 x2 x3 x4 x5 : Rat} (h1 : P3 p1) (h2 : P3 p2) (h3 : P3 p3) (h4 : P3 p4) (h5 : P3 p5) (n1 : p1 ≠ p2) (n2 : p2 ≠ p3) (n3 : p3 ≠ p4) (n4 : p4 ≠ p5) (z1 : x1 ≠ 0) (z2 : x2 ≠ 0) (z3 : x3 ≠ 0) (z4 : x4 ≠ 0) (z5 : x5 ≠ 0)
    (a0 : W1 0 [(p1, x1), (p2, x2), (p3, x3), (p4, x4), (p5, x5)] = 0)
    (a1 : W1 1 [(p1, x1), (p2, x2), (p3, x3), (p4, x4), (p5, x5)] = 0)
    (a2 : W1 2 [(p1, x1), (p2, x2), (p3, x3), (p4, x4), (p5, x5)] = 0)
    (b0 : W2 0 1 [(p1, x1), (p2, x2), (p3, x3), (p4, x4), (p5, x5)] = 0)
    (b1 : W2 0 2 [(p1, x1), (p2, x2), (p3, x3), (p4, x4), (p5, x5)] = 0)
    (b2 : W2 1 2 [(p1, x1), (p2, x2), (p3, x3), (p4, x4), (p5, x5)] = 0) : False := by
  unfold W1 at a0 a1 a2
  unfold W2 at b0 b1 b2
  simp only [act_cons, act_nil] at a0 a1 a2 b0 b1 b2
  rcases h1 with rfl | rfl | rfl
  · rcases h2 with rfl | rfl | rfl
    · exact absurd rfl n1
    · rcases h3 with rfl | rfl | rfl
      · rcases h4 with rfl | rfl | rfl
        · exact absurd rfl n3
        · rcases h5 with rfl | rfl | rfl
          · simp [wE1] at a0 a1
            simp [wE1, wE2] at b0
            grind
          · exact absurd rfl n4
          · simp [wE1] at a2
            grind
        · rcases h5 with rfl | rfl | rfl
          · simp [wE1] at a1
            grind
          · simp [wE1] at a2
            grind
          · exact absurd rfl n4
      · exact absurd rfl n2
      · rcases h4 with rfl | rfl | rfl
        · rcases h5 with rfl | rfl | rfl
          · exact absurd rfl n4
          · simp [wE1] at a2
            grind
          · simp [wE1] at a1
            grind
        · rcases h5 with rfl | rfl | rfl
          · simp [wE1] at a2
            grind
          · exact absurd rfl n4
          · simp [wE1] at a0
            grind
        · exact absurd rfl n3
    · rcases h3 with rfl | rfl | rfl
      · rcases h4 with rfl | rfl | rfl
        · exact absurd rfl n3
        · rcases h5 with rfl | rfl | rfl
          · simp [wE1] at a1
            grind
          · exact absurd rfl n4
          · simp [wE1] at a1
            grind
        · rcases h5 with rfl | rfl | rfl
          · simp [wE1] at a0 a2
            simp [wE1, wE2] at b1
            grind
          · simp [wE1] at a1
            grind
          · exact absurd rfl n4
      · rcases h4 with rfl | rfl | rfl
        · rcases h5 with rfl | rfl | rfl
          · exact absurd rfl n4
          · simp [wE1] at a2
            grind
          · simp [wE1] at a1
            grind
        · exact absurd rfl n3
        · rcases h5 with rfl | rfl | rfl
          · simp [wE1] at a1
            grind
          · simp [wE1] at a0
            grind
          · exact absurd rfl n4
      · exact absurd rfl n2
  · rcases h2 with rfl | rfl | rfl
    · rcases h3 with rfl | rfl | rfl
      · exact absurd rfl n2
      · rcases h4 with rfl | rfl | rfl
        · rcases h5 with rfl | rfl | rfl
          · exact absurd rfl n4
          · simp [wE1] at a0 a1
            simp [wE1, wE2] at b0
            grind
          · simp [wE1] at a2
            grind
        · exact absurd rfl n3
        · rcases h5 with rfl | rfl | rfl
          · simp [wE1] at a2
            grind
          · simp [wE1] at a0
            grind
          · exact absurd rfl n4
      · rcases h4 with rfl | rfl | rfl
        · rcases h5 with rfl | rfl | rfl
          · exact absurd rfl n4
          · simp [wE1] at a2
            grind
          · simp [wE1] at a1
            grind
        · rcases h5 with rfl | rfl | rfl
          · simp [wE1] at a2
            grind
          · exact absurd rfl n4
          · simp [wE1] at a0
            grind
        · exact absurd rfl n3
    · exact absurd rfl n1
    · rcases h3 with rfl | rfl | rfl
      · rcases h4 with rfl | rfl | rfl
        · exact absurd rfl n3
        · rcases h5 with rfl | rfl | rfl
          · simp [wE1] at a2
            grind
          · exact absurd rfl n4
          · simp [wE1] at a0
            grind
        · rcases h5 with rfl | rfl | rfl
          · simp [wE1] at a1
            grind
          · simp [wE1] at a0
            grind
          · exact absurd rfl n4
      · rcases h4 with rfl | rfl | rfl
        · rcases h5 with rfl | rfl | rfl
          · exact absurd rfl n4
          · simp [wE1] at a0
            grind
          · simp [wE1] at a0
            grind
        · exact absurd rfl n3
        · rcases h5 with rfl | rfl | rfl
          · simp [wE1] at a0
            grind
          · simp [wE1] at a1 a2
            simp [wE1, wE2] at b2
            grind
          · exact absurd rfl n4
      · exact absurd rfl n2
  · rcases h2 with rfl | rfl | rfl
    · rcases h3 with rfl | rfl | rfl
      · exact absurd rfl n2
      · rcases h4 with rfl | rfl | rfl
        · rcases h5 with rfl | rfl | rfl
          · exact absurd rfl n4
          · simp [wE1] at a2
            grind
          · simp [wE1] at a1
            grind
        · exact absurd rfl n3
        · rcases h5 with rfl | rfl | rfl
          · simp [wE1] at a1
            grind
          · simp [wE1] at a0
            grind
          · exact absurd rfl n4
      · rcases h4 with rfl | rfl | rfl
        · rcases h5 with rfl | rfl | rfl
          · exact absurd rfl n4
          · simp [wE1] at a1
            grind
          · simp [wE1] at a0 a2
            simp [wE1, wE2] at b1
            grind
        · rcases h5 with rfl | rfl | rfl
          · simp [wE1] at a1
            grind
          · exact absurd rfl n4
          · simp [wE1] at a0
            grind
        · exact absurd rfl n3
    · rcases h3 with rfl | rfl | rfl
      · rcases h4 with rfl | rfl | rfl
        · exact absurd rfl n3
        · rcases h5 with rfl | rfl | rfl
          · simp [wE1] at a2
            grind
          · exact absurd rfl n4
          · simp [wE1] at a0
            grind
        · rcases h5 with rfl | rfl | rfl
          · simp [wE1] at a1
            grind
          · simp [wE1] at a0
            grind
          · exact absurd rfl n4
      · exact absurd rfl n2
      · rcases h4 with rfl | rfl | rfl
        · rcases h5 with rfl | rfl | rfl
          · exact absurd rfl n4
          · simp [wE1] at a0
            grind
          · simp [wE1] at a0
            grind
        · rcases h5 with rfl | rfl | rfl
          · simp [wE1] at a0
            grind
          · exact absurd rfl n4
          · simp [wE1] at a1 a2
            simp [wE1, wE2] at b2
            grind
        · exact absurd rfl n3
    · exact absurd rfl n1
theorem sh6 {p1 p2 p3 p4 p5 p6 : Int} {x1 x2 x3 x4 x5 x6 : Rat} (h1 : P3 p1) (h2 : P3 p2) (h3 : P3 p3) (h4 : P3 p4) (h5 : P3 p5) (h6 : P3 p6) (n1 : p1 ≠ p2) (n2 : p2 ≠ p3) (n3 : p3 ≠ p4) (n4 : p4 ≠ p5) (n5 : p5 ≠ p6) (z1 : x1 ≠ 0) (z2 : x2 ≠ 0) (z3 : x3 ≠ 0) (z4 : x4 ≠ 0) (z5 : x5 ≠ 0) (z6 : x6 ≠ 0)
    (a0 : W1 0 [(p1, x1), (p2, x2), (p3, x3), (p4, x4), (p5, x5), (p6, x6)] = 0)
    (a1 : W1 1 [(p1, x1), (p2, x2), (p3, x3), (p4, x4), (p5, x5), (p6, x6)] = 0)
    (a2 : W1 2 [(p1, x1), (p2, x2), (p3, x3), (p4, x4), (p5, x5), (p6, x6)] = 0)
    (b0 : W2 0 1 [(p1, x1), (p2, x2), (p3, x3), (p4, x4), (p5, x5), (p6, x6)] = 0)
    (b1 : W2 0 2 [(p1, x1), (p2, x2), (p3, x3), (p4, x4), (p5, x5), (p6, x6)] = 0)
    (b2 : W2 1 2 [(p1, x1), (p2, x2), (p3, x3), (p4, x4), (p5, x5), (p6, x6)] = 0)
    (c0 : W3 0 0 1 [(p1, x1), (p2, x2), (p3, x3), (p4, x4), (p5, x5), (p6, x6)] = 0)
    (c1 : W3 0 0 2 [(p1, x1), (p2, x2), (p3, x3), (p4, x4), (p5, x5), (p6, x6)] = 0)
    (c2 : W3 0 1 1 [(p1, x1), (p2, x2), (p3, x3), (p4, x4), (p5, x5), (p6, x6)] = 0)
    (c3 : W3 0 1 2 [(p1, x1), (p2, x2), (p3, x3), (p4, x4), (p5, x5), (p6, x6)] = 0)
    (c4 : W3 0 2 1 [(p1, x1), (p2, x2), (p3, x3), (p4, x4), (p5, x5), (p6, x6)] = 0)
    (c5 : W3 0 2 2 [(p1, x1), (p2, x2), (p3, x3), (p4, x4), (p5, x5), (p6, x6)] = 0)
    (c6 : W3 1 1 2 [(p1, x1), (p2, x2), (p3, x3), (p4, x4), (p5, x5), (p6, x6)] = 0)
    (c7 : W3 1 2 2 [(p1, x1), (p2, x2), (p3, x3), (p4, x4), (p5, x5), (p6, x6)] = 0) : False := by
  unfold W1 at a0 a1 a2
  unfold W2 at b0 b1 b2
  unfold W3 at c0 c1 c2 c3 c4 c5 c6 c7
  simp only [act_cons, act_nil] at a0 a1 a2 b0 b1 b2 c0 c1 c2 c3 c4 c5 c6 c7
  rcases h1 with rfl | rfl | rfl
  · rcases h2 with rfl | rfl | rfl
    · exact absurd rfl n1
    · rcases h3 with rfl | rfl | rfl
      · rcases h4 with rfl | rfl | rfl
        · exact absurd rfl n3
        · rcases h5 with rfl | rfl | rfl
          · rcases h6 with rfl | rfl | rfl
            · exact absurd rfl n5
            · simp [wE1] at a0 a1
              simp [wE1, wE2] at b0
              simp [wE1, wE2, wE3] at c0 c2
              grind
            · simp [wE1] at a2
              grind
          · exact absurd rfl n4
          · rcases h6 with rfl | rfl | rfl
            · simp [wE1] at a2
              grind
            · simp [wE1] at a2
              grind
            · exact absurd rfl n5
        · rcases h5 with rfl | rfl | rfl
          · rcases h6 with rfl | rfl | rfl
            · exact absurd rfl n5
            · simp [wE1] at a2
              grind
            · simp [wE1] at a1
              grind
          · rcases h6 with rfl | rfl | rfl
            · simp [wE1] at a2
              grind
            · exact absurd rfl n5
            · simp [wE1] at a0 a1 a2
              simp [wE1, wE2] at b0 b1 b2
              grind
          · exact absurd rfl n4
      · exact absurd rfl n2
      · rcases h4 with rfl | rfl | rfl
        · rcases h5 with rfl | rfl | rfl
          · exact absurd rfl n4
          · rcases h6 with rfl | rfl | rfl
            · simp [wE1] at a2
              grind
            · exact absurd rfl n5
            · simp [wE1] at a0 a1 a2
              simp [wE1, wE2] at b0 b1 b2
              grind
          · rcases h6 with rfl | rfl | rfl
            · simp [wE1] at a1
              grind
            · simp [wE1] at a0 a1 a2
              simp [wE1, wE2] at b0 b1 b2
              grind
            · exact absurd rfl n5
        · rcases h5 with rfl | rfl | rfl
          · rcases h6 with rfl | rfl | rfl
            · exact absurd rfl n5
            · simp [wE1] at a2
              grind
            · simp [wE1] at a0 a1 a2
              simp [wE1, wE2] at b0 b1 b2
              grind
          · exact absurd rfl n4
          · rcases h6 with rfl | rfl | rfl
            · simp [wE1] at a0 a1 a2
              simp [wE1, wE2] at b0 b1 b2
              grind
            · simp [wE1] at a0
              grind
            · exact absurd rfl n5
        · exact absurd rfl n3
    · rcases h3 with rfl | rfl | rfl
      · rcases h4 with rfl | rfl | rfl
        · exact absurd rfl n3
        · rcases h5 with rfl | rfl | rfl
          · rcases h6 with rfl | rfl | rfl
            · exact absurd rfl n5
            · simp [wE1] at a2
              grind
            · simp [wE1] at a1
              grind
          · exact absurd rfl n4
          · rcases h6 with rfl | rfl | rfl
            · simp [wE1] at a1
              grind
            · simp [wE1] at a0 a1 a2
              simp [wE1, wE2] at b0 b1 b2
              grind
            · exact absurd rfl n5
        · rcases h5 with rfl | rfl | rfl
          · rcases h6 with rfl | rfl | rfl
            · exact absurd rfl n5
            · simp [wE1] at a1
              grind
            · simp [wE1] at a0 a2
              simp [wE1, wE2] at b1
              simp [wE1, wE2, wE3] at c1 c5
              grind
          · rcases h6 with rfl | rfl | rfl
            · simp [wE1] at a1
              grind
            · exact absurd rfl n5
            · simp [wE1] at a1
              grind
          · exact absurd rfl n4
      · rcases h4 with rfl | rfl | rfl
        · rcases h5 with rfl | rfl | rfl
          · exact absurd rfl n4
          · rcases h6 with rfl | rfl | rfl
            · simp [wE1] at a2
              grind
            · exact absurd rfl n5
            · simp [wE1] at a0 a1 a2
              simp [wE1, wE2] at b0 b1 b2
              grind
          · rcases h6 with rfl | rfl | rfl
            · simp [wE1] at a1
              grind
            · simp [wE1] at a0 a1 a2
              simp [wE1, wE2] at b0 b1 b2
              grind
            · exact absurd rfl n5
        · exact absurd rfl n3
        · rcases h5 with rfl | rfl | rfl
          · rcases h6 with rfl | rfl | rfl
            · exact absurd rfl n5
            · simp [wE1] at a0 a1 a2
              simp [wE1, wE2] at b0 b1 b2
              grind
            · simp [wE1] at a1
              grind
          · rcases h6 with rfl | rfl | rfl
            · simp [wE1] at a0 a1 a2
              simp [wE1, wE2] at b0 b1 b2
              grind
            · exact absurd rfl n5
            · simp [wE1] at a0
              grind
          · exact absurd rfl n4
      · exact absurd rfl n2
  · rcases h2 with rfl | rfl | rfl
    · rcases h3 with rfl | rfl | rfl
      · exact absurd rfl n2
      · rcases h4 with rfl | rfl | rfl
        · rcases h5 with rfl | rfl | rfl
          · exact absurd rfl n4
          · rcases h6 with rfl | rfl | rfl
            · simp [wE1] at a0 a1
              simp [wE1, wE2] at b0
              simp [wE1, wE2, wE3] at c0 c2
              grind
            · exact absurd rfl n5
            · simp [wE1] at a2
              grind
          · rcases h6 with rfl | rfl | rfl
            · simp [wE1] at a2
              grind
            · simp [wE1] at a2
              grind
            · exact absurd rfl n5
        · exact absurd rfl n3
        · rcases h5 with rfl | rfl | rfl
          · rcases h6 with rfl | rfl | rfl
            · exact absurd rfl n5
            · simp [wE1] at a2
              grind
            · simp [wE1] at a0 a1 a2
              simp [wE1, wE2] at b0 b1 b2
              grind
          · rcases h6 with rfl | rfl | rfl
            · simp [wE1] at a2
              grind
            · exact absurd rfl n5
            · simp [wE1] at a0
              grind
          · exact absurd rfl n4
      · rcases h4 with rfl | rfl | rfl
        · rcases h5 with rfl | rfl | rfl
          · exact absurd rfl n4
          · rcases h6 with rfl | rfl | rfl
            · simp [wE1] at a2
              grind
            · exact absurd rfl n5
            · simp [wE1] at a0 a1 a2
              simp [wE1, wE2] at b0 b1 b2
              grind
          · rcases h6 with rfl | rfl | rfl
            · simp [wE1] at a1
              grind
            · simp [wE1] at a0 a1 a2
              simp [wE1, wE2] at b0 b1 b2
              grind
            · exact absurd rfl n5
        · rcases h5 with rfl | rfl | rfl
          · rcases h6 with rfl | rfl | rfl
            · exact absurd rfl n5
            · simp [wE1] at a2
              grind
            · simp [wE1] at a0 a1 a2
              simp [wE1, wE2] at b0 b1 b2
              grind
          · exact absurd rfl n4
          · rcases h6 with rfl | rfl | rfl
            · simp [wE1] at a0 a1 a2
              simp [wE1, wE2] at b0 b1 b2
              grind
            · simp [wE1] at a0
              grind
            · exact absurd rfl n5
        · exact absurd rfl n3
    · exact absurd rfl n1
    · rcases h3 with rfl | rfl | rfl
      · rcases h4 with rfl | rfl | rfl
        · exact absurd rfl n3
        · rcases h5 with rfl | rfl | rfl
          · rcases h6 with rfl | rfl | rfl
            · exact absurd rfl n5
            · simp [wE1] at a2
              grind
            · simp [wE1] at a0 a1 a2
              simp [wE1, wE2] at b0 b1 b2
              grind
          · exact absurd rfl n4
          · rcases h6 with rfl | rfl | rfl
            · simp [wE1] at a0 a1 a2
              simp [wE1, wE2] at b0 b1 b2
              grind
            · simp [wE1] at a0
              grind
            · exact absurd rfl n5
        · rcases h5 with rfl | rfl | rfl
          · rcases h6 with rfl | rfl | rfl
            · exact absurd rfl n5
            · simp [wE1] at a0 a1 a2
              simp [wE1, wE2] at b0 b1 b2
              grind
            · simp [wE1] at a1
              grind
          · rcases h6 with rfl | rfl | rfl
            · simp [wE1] at a0 a1 a2
              simp [wE1, wE2] at b0 b1 b2
              grind
            · exact absurd rfl n5
            · simp [wE1] at a0
              grind
          · exact absurd rfl n4
      · rcases h4 with rfl | rfl | rfl
        · rcases h5 with rfl | rfl | rfl
          · exact absurd rfl n4
          · rcases h6 with rfl | rfl | rfl
            · simp [wE1] at a2
              grind
            · exact absurd rfl n5
            · simp [wE1] at a0
              grind
          · rcases h6 with rfl | rfl | rfl
            · simp [wE1] at a0 a1 a2
              simp [wE1, wE2] at b0 b1 b2
              grind
            · simp [wE1] at a0
              grind
            · exact absurd rfl n5
        · exact absurd rfl n3
        · rcases h5 with rfl | rfl | rfl
          · rcases h6 with rfl | rfl | rfl
            · exact absurd rfl n5
            · simp [wE1] at a0
              grind
            · simp [wE1] at a0
              grind
          · rcases h6 with rfl | rfl | rfl
            · simp [wE1] at a0
              grind
            · exact absurd rfl n5
            · simp [wE1] at a1 a2
              simp [wE1, wE2] at b2
              simp [wE1, wE2, wE3] at c6 c7
              grind
          · exact absurd rfl n4
      · exact absurd rfl n2
  · rcases h2 with rfl | rfl | rfl
    · rcases h3 with rfl | rfl | rfl
      · exact absurd rfl n2
      · rcases h4 with rfl | rfl | rfl
        · rcases h5 with rfl | rfl | rfl
          · exact absurd rfl n4
          · rcases h6 with rfl | rfl | rfl
            · simp [wE1] at a2
              grind
            · exact absurd rfl n5
            · simp [wE1] at a0 a1 a2
              simp [wE1, wE2] at b0 b1 b2
              grind
          · rcases h6 with rfl | rfl | rfl
            · simp [wE1] at a1
              grind
            · simp [wE1] at a0 a1 a2
              simp [wE1, wE2] at b0 b1 b2
              grind
            · exact absurd rfl n5
        · exact absurd rfl n3
        · rcases h5 with rfl | rfl | rfl
          · rcases h6 with rfl | rfl | rfl
            · exact absurd rfl n5
            · simp [wE1] at a0 a1 a2
              simp [wE1, wE2] at b0 b1 b2
              grind
            · simp [wE1] at a1
              grind
          · rcases h6 with rfl | rfl | rfl
            · simp [wE1] at a0 a1 a2
              simp [wE1, wE2] at b0 b1 b2
              grind
            · exact absurd rfl n5
            · simp [wE1] at a0
              grind
          · exact absurd rfl n4
      · rcases h4 with rfl | rfl | rfl
        · rcases h5 with rfl | rfl | rfl
          · exact absurd rfl n4
          · rcases h6 with rfl | rfl | rfl
            · simp [wE1] at a1
              grind
            · exact absurd rfl n5
            · simp [wE1] at a1
              grind
          · rcases h6 with rfl | rfl | rfl
            · simp [wE1] at a0 a2
              simp [wE1, wE2] at b1
              simp [wE1, wE2, wE3] at c1 c5
              grind
            · simp [wE1] at a1
              grind
            · exact absurd rfl n5
        · rcases h5 with rfl | rfl | rfl
          · rcases h6 with rfl | rfl | rfl
            · exact absurd rfl n5
            · simp [wE1] at a0 a1 a2
              simp [wE1, wE2] at b0 b1 b2
              grind
            · simp [wE1] at a1
              grind
          · exact absurd rfl n4
          · rcases h6 with rfl | rfl | rfl
            · simp [wE1] at a1
              grind
            · simp [wE1] at a0
              grind
            · exact absurd rfl n5
        · exact absurd rfl n3
    · rcases h3 with rfl | rfl | rfl
      · rcases h4 with rfl | rfl | rfl
        · exact absurd rfl n3
        · rcases h5 with rfl | rfl | rfl
          · rcases h6 with rfl | rfl | rfl
            · exact absurd rfl n5
            · simp [wE1] at a2
              grind
            · simp [wE1] at a0 a1 a2
              simp [wE1, wE2] at b0 b1 b2
              grind
          · exact absurd rfl n4
          · rcases h6 with rfl | rfl | rfl
            · simp [wE1] at a0 a1 a2
              simp [wE1, wE2] at b0 b1 b2
              grind
            · simp [wE1] at a0
              grind
            · exact absurd rfl n5
        · rcases h5 with rfl | rfl | rfl
          · rcases h6 with rfl | rfl | rfl
            · exact absurd rfl n5
            · simp [wE1] at a0 a1 a2
              simp [wE1, wE2] at b0 b1 b2
              grind
            · simp [wE1] at a1
              grind
          · rcases h6 with rfl | rfl | rfl
            · simp [wE1] at a0 a1 a2
              simp [wE1, wE2] at b0 b1 b2
              grind
            · exact absurd rfl n5
            · simp [wE1] at a0
              grind
          · exact absurd rfl n4
      · exact absurd rfl n2
      · rcases h4 with rfl | rfl | rfl
        · rcases h5 with rfl | rfl | rfl
          · exact absurd rfl n4
          · rcases h6 with rfl | rfl | rfl
            · simp [wE1] at a0 a1 a2
              simp [wE1, wE2] at b0 b1 b2
              grind
            · exact absurd rfl n5
            · simp [wE1] at a0
              grind
          · rcases h6 with rfl | rfl | rfl
            · simp [wE1] at a1
              grind
            · simp [wE1] at a0
              grind
            · exact absurd rfl n5
        · rcases h5 with rfl | rfl | rfl
          · rcases h6 with rfl | rfl | rfl
            · exact absurd rfl n5
            · simp [wE1] at a0
              grind
            · simp [wE1] at a0
              grind
          · exact absurd rfl n4
          · rcases h6 with rfl | rfl | rfl
            · simp [wE1] at a0
              grind
            · simp [wE1] at a1 a2
              simp [wE1, wE2] at b2
              simp [wE1, wE2, wE3] at c6 c7
              grind
            · exact absurd rfl n5
        · exact absurd rfl n3
    · exact absurd rfl n1
end K37
namespace K37
open PySem
/-! ### a short row has a word -/
theorem short_good {t : Row} (hr : Red t) (hn : t ≠ []) (hl : t.length ≤ 6) (hp : ∀ p ∈ t, P3 p.1) : Good t := by
  refine Classical.byContradiction fun g => ?_
  have a : ∀ x : Int, P3 x → W1 x t = 0 := fun x hx => Decidable.byContradiction fun z => g (.inl ⟨x, hx, z⟩)
  have b : 2 ≤ topOf t → ∀ w ∈ good2, W2 w.1 w.2 t = 0 := fun h w hw => Decidable.byContradiction fun z => g (.inr (.inl ⟨h, w, hw, z⟩))
  have c : 3 ≤ topOf t → ∀ w ∈ good3, W3 w.1 w.2.1 w.2.2 t = 0 := fun h w hw => Decidable.byContradiction fun z => g (.inr (.inr ⟨h, w, hw, z⟩))
  have nz := red_nz hr
  have a0 := a 0 (.inl rfl)
  have a1 := a 1 (.inr (.inl rfl))
  have a2 := a 2 (.inr (.inr rfl))
  match t, hn, hl with
  | [(p1, x1)], _, _ => exact sh1 (hp (p1, x1) (by simp)) (nz (p1, x1) (by simp)) a0 a1 a2
  | [(p1, x1), (p2, x2)], _, _ => exact sh2 (hp (p1, x1) (by simp)) (hp (p2, x2) (by simp)) hr.ne (nz (p1, x1) (by simp)) (nz (p2, x2) (by simp)) a0 a1 a2
  | [(p1, x1), (p2, x2), (p3, x3)], _, _ => exact sh3 (hp (p1, x1) (by simp)) (hp (p2, x2) (by simp)) (hp (p3, x3) (by simp)) hr.ne hr.tail.ne (nz (p1, x1) (by simp)) (nz (p2, x2) (by simp)) (nz (p3, x3) (by simp)) a0 a1 a2
  | [(p1, x1), (p2, x2), (p3, x3), (p4, x4)], _, _ =>
    have b := b (by simp [topOf])
    exact sh4 (hp (p1, x1) (by simp)) (hp (p2, x2) (by simp)) (hp (p3, x3) (by simp)) (hp (p4, x4) (by simp)) hr.ne hr.tail.ne hr.tail.tail.ne (nz (p1, x1) (by simp)) (nz (p2, x2) (by simp)) (nz (p3, x3) (by simp)) (nz (p4, x4) (by simp)) a0 a1 a2
      (b (0, 1) (by decide)) (b (0, 2) (by decide)) (b (1, 2) (by decide))
  | [(p1, x1), (p2, x2), (p3, x3), (p4, x4), (p5, x5)], _, _ =>
    have b := b (by simp [topOf])
    exact sh5 (hp (p1, x1) (by simp)) (hp (p2, x2) (by simp)) (hp (p3, x3) (by simp)) (hp (p4, x4) (by simp)) (hp (p5, x5) (by simp)) hr.ne hr.tail.ne hr.tail.tail.ne hr.tail.tail.tail.ne (nz (p1, x1) (by simp)) (nz (p2, x2) (by simp)) (nz (p3, x3) (by simp)) (nz (p4, x4) (by simp)) (nz (p5, x5) (by simp)) a0 a1 a2
      (b (0, 1) (by decide)) (b (0, 2) (by decide)) (b (1, 2) (by decide))
  | [(p1, x1), (p2, x2), (p3, x3), (p4, x4), (p5, x5), (p6, x6)], _, _ =>
    have b := b (by simp [topOf])
    have c := c (by simp [topOf])
    exact sh6 (hp (p1, x1) (by simp)) (hp (p2, x2) (by simp)) (hp (p3, x3) (by simp)) (hp (p4, x4) (by simp)) (hp (p5, x5) (by simp)) (hp (p6, x6) (by simp)) hr.ne hr.tail.ne hr.tail.tail.ne hr.tail.tail.tail.ne hr.tail.tail.tail.tail.ne
      (nz (p1, x1) (by simp)) (nz (p2, x2) (by simp)) (nz (p3, x3) (by simp)) (nz (p4, x4) (by simp)) (nz (p5, x5) (by simp)) (nz (p6, x6) (by simp)) a0 a1 a2
      (b (0, 1) (by decide)) (b (0, 2) (by decide)) (b (1, 2) (by decide)) (c (0, 0, 1) (by decide)) (c (0, 0, 2) (by decide)) (c (0, 1, 1) (by decide)) (c (0, 1, 2) (by decide)) (c (0, 2, 1) (by decide)) (c (0, 2, 2) (by decide)) (c (1, 1, 2) (by decide)) (c (1, 2, 2) (by decide))
/-! ### what acts alike everywhere has one normal form -/
theorem rest_nil_of {m N : Nat} (hm : m ≤ 4) {r s : Row} (hr : RowS m N r) (hs : RowS m N s) (h : ∀ (V : Type) (E : Int → Rat → V → V), Acts E → ∀ v, act E r v = act E s v) : restR r s = [] := by
  refine (tab_iff hm hr hs).mp (cfT_ext (tr_tab _ r _ tr_IT) (tr_tab _ s _ tr_IT) ?_)
  rw [cf_act, cf_act]
  exact h _ _ (seq_acts (nil_cells hm)) _
theorem nf_alike {m N : Nat} (hm : m ≤ 4) {r s : Row} (hr : RowS m N r) (hs : RowS m N s) (h : ∀ (V : Type) (E : Int → Rat → V → V), Acts E → ∀ v, act E r v = act E s v) : nf r = nf s := (same_iff r s).mpr (rest_nil_of hm hr hs h)
theorem act_turn_nf {V : Type} {E : Int → Rat → V → V} (A : Acts E) (r : Row) (v : V) : act E (turnR (nf r)) v = act E (turnR r) v := by
  have h1 := act_turn' A r v
  have h2 := act_turn A (nf r) (act E (turnR r) v)
  rw [act_nf A, h1] at h2
  exact h2
/-! ### brackets -/
def brk (r s : Row) : Row := r ++ s ++ turnR r ++ turnR s
theorem k2_word {p b : Int} {r s t : Rat} (hp : P3 p) (hb : b = 1 ∨ b = 2) (hs : s ≠ 0) (ht : t ≠ 0) : W3 0 0 b ([(p, r)] ++ turnR ([(p, r)] ++ brk (brk [(0, s)] [(b, t)]) [(0, s)])) ≠ 0 := by
  unfold W3
  intro h
  simp only [brk, turnR, List.reverse_cons, List.reverse_nil, List.nil_append, List.append_nil, List.cons_append, List.map_cons, List.map_nil, List.map_append, List.reverse_append, List.append_assoc, act_cons, act_nil] at h
  rcases hp with rfl | rfl | rfl <;> rcases hb with rfl | rfl <;> (simp [wE1, wE2, wE3] at h; grind)
theorem k3_a {a b c m : Int} {x y z t : Rat} (hm : m = 1 ∨ m = 2) (ha : 0 ≤ a ∧ a ≤ m) (hb : 0 ≤ b ∧ b ≤ m) (hc : 0 ≤ c ∧ c ≤ m) (n1 : a ≠ b) (n2 : b ≠ c) (hx : x ≠ 0) (hy : y ≠ 0) (hz : z ≠ 0) (ht : t ≠ 0) :
    (∃ w ∈ good2, W2 w.1 w.2 [(a, x), (b, y), (c, z), (m, t), (c, -z), (b, -y), (a, -x), (m, -t)] ≠ 0) ∨ (∃ w ∈ good3, W3 w.1 w.2.1 w.2.2 [(a, x), (b, y), (c, z), (m, t), (c, -z), (b, -y), (a, -x), (m, -t)] ≠ 0) := by
  refine Decidable.byContradiction fun g => ?_
  have B : ∀ w ∈ good2, W2 w.1 w.2 [(a, x), (b, y), (c, z), (m, t), (c, -z), (b, -y), (a, -x), (m, -t)] = 0 := fun w hw => Decidable.byContradiction fun q => g (.inl ⟨w, hw, q⟩)
  have C : ∀ w ∈ good3, W3 w.1 w.2.1 w.2.2 [(a, x), (b, y), (c, z), (m, t), (c, -z), (b, -y), (a, -x), (m, -t)] = 0 := fun w hw => Decidable.byContradiction fun q => g (.inr ⟨w, hw, q⟩)
  have b0 := B (0, 1) (by decide)
  have b1 := B (0, 2) (by decide)
  have b2 := B (1, 2) (by decide)
  have c2 := C (0, 1, 1) (by decide)
  have c5 := C (0, 2, 2) (by decide)
  have c7 := C (1, 2, 2) (by decide)
  clear B C g
  unfold W2 at b0 b1 b2
  unfold W3 at c2 c5 c7
  simp only [act_cons, act_nil] at b0 b1 b2 c2 c5 c7
  rcases hm with rfl | rfl
  · clear b1 b2 c5 c7
    rcases (by omega : a = 0 ∨ a = 1) with rfl | rfl
    · obtain rfl : b = 1 := by omega
      obtain rfl : c = 0 := by omega
      simp [wE1, wE2] at b0
      simp [wE1, wE2, wE3] at c2
      grind
    · obtain rfl : b = 0 := by omega
      obtain rfl : c = 1 := by omega
      simp [wE1, wE2] at b0
      simp [wE1, wE2, wE3] at c2
      grind
  · clear b0 c2
    rcases (by omega : a = 0 ∨ a = 1 ∨ a = 2) with rfl | rfl | rfl <;> rcases (by omega : b = 0 ∨ b = 1 ∨ b = 2) with rfl | rfl | rfl <;> first
      | exact absurd rfl n1
      | (rcases (by omega : c = 0 ∨ c = 1 ∨ c = 2) with rfl | rfl | rfl <;> first
          | exact absurd rfl n2
          | (simp [wE1, wE2] at b1 b2
             simp [wE1, wE2, wE3] at c5 c7
             grind))
/-! ### the drawn rows -/
structure RowP (m n : Nat) (R : Row) : Prop where
  len : R.length ≤ n
  ok : ∀ p ∈ R, (0 ≤ p.1 ∧ p.1 < m) ∧ Bq 6 18 p.2
theorem RowP.rs {m n : Nat} {R : Row} (h : RowP m n R) (hn : n ≤ 30) : RowS m 18 R := ⟨Nat.le_trans h.len hn, fun p hp => (h.ok p hp).1, fun p hp => (h.ok p hp).2⟩
theorem RowP.app {m a b : Nat} {R S : Row} (h : RowP m a R) (g : RowP m b S) : RowP m (a + b) (R ++ S) := by
  refine ⟨by rw [List.length_append]; exact Nat.add_le_add h.len g.len, fun p hp => ?_⟩
  rcases (List.mem_append.mp hp) with z | z
  · exact h.ok p z
  · exact g.ok p z
theorem RowP.turn {m a : Nat} {R : Row} (h : RowP m a R) : RowP m a (turnR R) := by
  refine ⟨by rw [turn_len]; exact h.len, fun p hp => ?_⟩
  obtain ⟨q, hq, rfl⟩ := (List.mem_map.mp hp)
  have := h.ok q (List.mem_reverse.mp hq)
  exact ⟨this.1, this.2.neg⟩
theorem RowP.one {m : Nat} {p : Int} {x : Rat} (h : 0 ≤ p ∧ p < m) (g : Bq 6 18 x) : RowP m 1 [(p, x)] := ⟨Nat.le_refl _, fun q hq => by rw [List.mem_singleton.mp hq]; exact ⟨h, g⟩⟩
theorem RowP.brk {m a b : Nat} {R S : Row} (h : RowP m a R) (g : RowP m b S) : RowP m (a + b + a + b) (brk R S) := ((h.app g).app h.turn).app g.turn
theorem RowP.sub {m n : Nat} {R S : Row} (h : RowP m n R) (hl : S.length ≤ n) (hs : ∀ p ∈ S, p ∈ R) : RowP m n S := ⟨hl, fun p hp => h.ok p (hs p hp)⟩
inductive Drawn (m : Nat) : Row → Row → Prop
  | k0 {R S : Row} : RowP m 3 R → RowP m 3 S → Drawn m R S
  | k1 {R : Row} {x : Rat} : RowP m 3 R → Bq 6 18 x → Drawn m R (R.take 1 ++ [(0, x), (0, -x)] ++ R.drop 1)
  | k2 {p : Int} {r x y : Rat} : RowP m 1 [(p, r)] → Bq 6 18 x → Bq 6 18 y → Drawn m [(p, r)] ([(p, r)] ++ brk (brk [(0, x)] [((m : Int) - 1, y)]) [(0, x)])
  | k3 {R : Row} {y : Rat} : RowP m 3 R → Bq 6 18 y → Drawn m (R ++ [((m : Int) - 1, y)]) ([((m : Int) - 1, y)] ++ R)
  | k4 {p : Int} {r x y : Rat} : RowP m 1 [(p, r)] → Bq 6 18 x → Bq 6 18 y → Drawn m [(p, r)] ([(p, r)] ++ brk [(0, x)] [((m : Int) - 1, y)])
  | k5 {p : Int} {r x y : Rat} : RowP m 1 [(p, r)] → Bq 6 18 x → Bq 6 18 y → Drawn m (brk [(0, x)] [((m : Int) - 1, y)] ++ [(p, r)]) [(p, r)]
theorem Drawn.rows {m : Nat} (hm : m = 2 ∨ m = 3) {r s : Row} (d : Drawn m r s) : RowS m 18 r ∧ RowS m 18 s := by
  have h0 : ∀ {x : Rat}, Bq 6 18 x → RowP m 1 [(0, x)] := fun hx => .one (by omega) hx
  have h1 : ∀ {x : Rat}, Bq 6 18 x → RowP m 1 [((m : Int) - 1, x)] := fun hx => .one (by omega) hx
  cases d with
  | k0 a b => exact ⟨a.rs (by decide), b.rs (by decide)⟩
  | @k1 R x a hx =>
    refine ⟨a.rs (by decide), RowP.rs (n := 8) (((a.sub (S := r.take 1) (by rw [List.length_take]; have := a.len; omega) fun p hp => List.mem_of_mem_take hp).app ((h0 hx).app (h0 hx.neg))).app (a.sub (S := r.drop 1) (by rw [List.length_drop]; have := a.len; omega) fun p hp => List.mem_of_mem_drop hp)) (by decide)⟩
  | k2 a hx hy => exact ⟨a.rs (by decide), (a.app (((h0 hx).brk (h1 hy)).brk (h0 hx))).rs (by decide)⟩
  | k3 a hy => exact ⟨(a.app (h1 hy)).rs (by decide), ((h1 hy).app a).rs (by decide)⟩
  | k4 a hx hy => exact ⟨a.rs (by decide), (a.app ((h0 hx).brk (h1 hy))).rs (by decide)⟩
  | k5 a hx hy => exact ⟨(((h0 hx).brk (h1 hy)).app a).rs (by decide), a.rs (by decide)⟩
theorem rest_P3 {m N : Nat} (hm : m = 2 ∨ m = 3) {r s : Row} (hr : RowS m N r) (hs : RowS m N s) : ∀ p ∈ restR r s, P3 p.1 := fun p hp => by
  obtain ⟨u, hu, e⟩ := rest_parts r s p hp
  have : 0 ≤ u.1 ∧ u.1 < m := by
    rcases List.mem_append.mp hu with z | z
    · exact hr.parts u z
    · exact hs.parts u z
  show p.1 = 0 ∨ p.1 = 1 ∨ p.1 = 2
  omega
theorem rest_len (r s : Row) : (restR r s).length ≤ r.length + s.length := by
  have := nf_len (r ++ turnR s)
  rw [List.length_append, turn_len] at this
  exact this
theorem few_good {m N : Nat} (hm : m = 2 ∨ m = 3) {r s : Row} (hr : RowS m N r) (hs : RowS m N s) (h : (restR r s).length ≤ 6) : restR r s = [] ∨ Good (restR r s) := by
  by_cases z : restR r s = []
  · exact .inl z
  · exact .inr (short_good (rest_red r s) z h (rest_P3 hm hr hs))
theorem many_good {r s : Row} (h : ¬ (restR r s).length ≤ 6) (g : (∃ w ∈ good2, W2 w.1 w.2 (restR r s) ≠ 0) ∨ ∃ w ∈ good3, W3 w.1 w.2.1 w.2.2 (restR r s) ≠ 0) : Good (restR r s) := by
  have t3 : 3 ≤ topOf (restR r s) := by unfold topOf; omega
  rcases g with g | g
  · exact .inr (.inl ⟨by omega, g⟩)
  · exact .inr (.inr ⟨t3, g⟩)
theorem Drawn.good {m : Nat} (hm : m = 2 ∨ m = 3) {r s : Row} (d : Drawn m r s) : restR r s = [] ∨ Good (restR r s) := by
  have q1 : ∀ q : Rat, q + -q = 0 := fun q => by grind
  have q2 : ∀ q : Rat, -q + q = 0 := fun q => by grind
  have q3 : -(0 : Rat) = 0 := by grind
  have q4 : ∀ q : Rat, - -q = q := fun q => by grind
  obtain ⟨hr, hs⟩ := d.rows hm
  have m4 : m ≤ 4 := by omega
  have h0 : ∀ {x : Rat}, Bq 6 18 x → RowP m 1 [(0, x)] := fun hx => .one (by omega) hx
  have h1 : ∀ {x : Rat}, Bq 6 18 x → RowP m 1 [((m : Int) - 1, x)] := fun hx => .one (by omega) hx
  cases d with
  | k0 a b => exact few_good hm hr hs (Nat.le_trans (rest_len _ _) (by have := a.len; have := b.len; omega))
  | @k1 R x a hx =>
    refine .inl (rest_nil_of m4 hr hs fun V E A v => ?_)
    rw [act_append, act_append]
    show _ = act E (r.drop 1) (E 0 (-x) (E 0 x (act E (r.take 1) v)))
    rw [A.add, q1, A.zero, ← act_append, List.take_append_drop]
  | @k2 p r x y a hx hy =>
    have hp := rest_P3 hm hr hs
    by_cases hl : (restR [(p, r)] ([(p, r)] ++ brk (brk [(0, x)] [((m : Int) - 1, y)]) [(0, x)])).length ≤ 6
    · exact few_good hm hr hs hl
    by_cases zx : x = 0
    · subst zx
      refine .inl (rest_nil_of m4 hr hs fun V E A v => ?_)
      simp only [brk, turnR, List.reverse_cons, List.reverse_nil, List.nil_append, List.append_nil, List.cons_append, List.map_cons, List.map_nil, List.map_append, List.reverse_append, List.append_assoc, act_cons, act_nil, A.zero, A.add, q1, q2, q3, q4, Rat.add_zero, Rat.zero_add]
    by_cases zy : y = 0
    · subst zy
      refine .inl (rest_nil_of m4 hr hs fun V E A v => ?_)
      have q5 : x + x + -x + -x = 0 := by grind
      simp only [brk, turnR, List.reverse_cons, List.reverse_nil, List.nil_append, List.append_nil, List.cons_append, List.map_cons, List.map_nil, List.map_append, List.reverse_append, List.append_assoc, act_cons, act_nil, A.zero, A.add, q1, q2, q3, q4, q5, Rat.add_zero, Rat.zero_add]
    have hb : (m : Int) - 1 = 1 ∨ (m : Int) - 1 = 2 := by omega
    have pp : P3 p := by
      have := (a.ok _ (.head _)).1
      show p = 0 ∨ p = 1 ∨ p = 2
      simp only at this
      omega
    have hw := k2_word (p := p) (r := r) pp hb zx zy
    refine .inr (many_good hl (.inr ⟨(0, 0, (m : Int) - 1), ?_, ?_⟩))
    · rcases hb with e | e <;> (rw [e]; decide)
    · unfold restR
      rw [W3_nf]
      exact hw
  | @k3 R y a hy =>
    by_cases hl : (restR (R ++ [((m : Int) - 1, y)]) ([((m : Int) - 1, y)] ++ R)).length ≤ 6
    · exact few_good hm hr hs hl
    by_cases zy : y = 0
    · subst zy
      refine .inl (rest_nil_of m4 hr hs fun V E A v => ?_)
      rw [act_append, act_append]
      simp only [act_cons, act_nil, A.zero]
    have alike : nf ((R ++ [((m : Int) - 1, y)]) ++ turnR ([((m : Int) - 1, y)] ++ R)) = nf ((nf R ++ [((m : Int) - 1, y)]) ++ turnR ([((m : Int) - 1, y)] ++ nf R)) := by
      have hR : RowP m 3 R := a
      have hN : RowS m (18 * 60) ((R ++ [((m : Int) - 1, y)]) ++ turnR ([((m : Int) - 1, y)] ++ R)) := by
        have := ((hR.app (h1 hy)).app ((h1 hy).app hR).turn).rs (by decide)
        exact ⟨this.len, this.parts, fun p hp => (this.xs p hp).mono (by decide)⟩
      have hRn : RowS m (18 * 60) (nf R) := by
        have hq := nf_q (hR.rs (by decide)).q
        refine ⟨by have := nf_len R; have := hR.len; omega, fun p hp => ?_, hq.2⟩
        obtain ⟨u, hu, e⟩ := nf_parts R p hp
        have := (hR.ok u hu).1
        omega
      have two : RowS m (18 * 60) [((m : Int) - 1, y)] := ⟨by simp, fun p hp => by rw [List.mem_singleton.mp hp]; exact ⟨by simp only; omega, by simp only; omega⟩, fun p hp => by rw [List.mem_singleton.mp hp]; exact hy.mono (by decide)⟩
      have nl : (nf R).length ≤ 3 := Nat.le_trans (nf_len R) hR.len
      have app : ∀ {u w : Row}, RowS m (18 * 60) u → RowS m (18 * 60) w → u.length + w.length ≤ 30 → RowS m (18 * 60) (u ++ w) := fun hu hw hl => by
        refine ⟨by rw [List.length_append]; exact hl, fun p hp => ?_, fun p hp => ?_⟩ <;> rcases List.mem_append.mp hp with z | z
        · exact hu.parts p z
        · exact hw.parts p z
        · exact hu.xs p z
        · exact hw.xs p z
      have trn : ∀ {u : Row}, RowS m (18 * 60) u → RowS m (18 * 60) (turnR u) := fun hu => by
        refine ⟨by rw [turn_len]; exact hu.len, fun p hp => ?_, fun p hp => ?_⟩
        · obtain ⟨q, hq, rfl⟩ := List.mem_map.mp hp
          exact hu.parts q (List.mem_reverse.mp hq)
        · obtain ⟨q, hq, rfl⟩ := List.mem_map.mp hp
          exact (hu.xs q (List.mem_reverse.mp hq)).neg
      have s1 := app hRn two (by simp; omega)
      have s2 := app two hRn (by simp; omega)
      have hN2 := app s1 (trn s2) (by rw [turn_len]; simp; omega)
      refine nf_alike m4 hN hN2 fun V E A v => ?_
      rw [act_append, act_append, act_append, act_append, act_nf A, turn_append, turn_append, act_append, act_append, act_turn_nf A]
    unfold restR at hl ⊢
    rw [alike] at hl ⊢
    have red := red_nf R
    have l3 : (nf R).length ≤ 3 := Nat.le_trans (nf_len R) a.len
    have pr : ∀ p ∈ nf R, 0 ≤ p.1 ∧ p.1 < m := fun p hp => by
      obtain ⟨u, hu, e⟩ := nf_parts R p hp
      have := (a.ok u hu).1
      omega
    have lim : (nf R).length = 3 := by
      have := nf_len ((nf R ++ [((m : Int) - 1, y)]) ++ turnR ([((m : Int) - 1, y)] ++ nf R))
      rw [List.length_append, turn_len] at this
      simp only [List.length_append, List.length_cons, List.length_nil] at this
      omega
    generalize nf R = Q at *
    match Q, lim with
    | [(a1, x1), (a2, x2), (a3, x3)], _ =>
      have nz := red_nz red
      have r1 := pr (a1, x1) (by simp)
      have r2 := pr (a2, x2) (by simp)
      have r3 := pr (a3, x3) (by simp)
      simp only at r1 r2 r3
      have g := k3_a (m := (m : Int) - 1) (t := y) (by omega) (a := a1) (b := a2) (c := a3) (by omega) (by omega) (by omega) red.ne red.tail.ne (nz (a1, x1) (by simp)) (nz (a2, x2) (by simp)) (nz (a3, x3) (by simp)) zy
      have er : ([(a1, x1), (a2, x2), (a3, x3)] ++ [((m : Int) - 1, y)]) ++ turnR ([((m : Int) - 1, y)] ++ [(a1, x1), (a2, x2), (a3, x3)]) = [(a1, x1), (a2, x2), (a3, x3), ((m : Int) - 1, y), (a3, -x3), (a2, -x2), (a1, -x1), ((m : Int) - 1, -y)] := rfl
      rw [er] at hl ⊢
      have t3 : 3 ≤ topOf (nf [(a1, x1), (a2, x2), (a3, x3), ((m : Int) - 1, y), (a3, -x3), (a2, -x2), (a1, -x1), ((m : Int) - 1, -y)]) := by unfold topOf; omega
      rcases g with ⟨w, hw, g⟩ | ⟨w, hw, g⟩
      · exact .inr (.inr (.inl ⟨by omega, w, hw, by rw [W2_nf]; exact g⟩))
      · exact .inr (.inr (.inr ⟨t3, w, hw, by rw [W3_nf]; exact g⟩))
  | k4 a hx hy => exact few_good hm hr hs (Nat.le_trans (rest_len _ _) (by simp [brk, turnR]))
  | k5 a hx hy => exact few_good hm hr hs (Nat.le_trans (rest_len _ _) (by simp [brk, turnR]))
end K37
namespace K37
open PySem
/-! ### sizes of what words are worth -/
def dn : Nat → Nat
  | 0 => 1
  | j + 1 => dn j * (6 * (j + 1))
def dC : Nat := 33592320
theorem dn_div : ∀ j, j ≤ 6 → ∃ e, 0 < e ∧ e ≤ dC ∧ dn j * e = dC := fun j hj => by
  rcases (by omega : j = 0 ∨ j = 1 ∨ j = 2 ∨ j = 3 ∨ j = 4 ∨ j = 5 ∨ j = 6) with rfl | rfl | rfl | rfl | rfl | rfl | rfl
  · exact ⟨33592320, by decide, by decide, by decide⟩
  · exact ⟨5598720, by decide, by decide, by decide⟩
  · exact ⟨466560, by decide, by decide, by decide⟩
  · exact ⟨25920, by decide, by decide, by decide⟩
  · exact ⟨1080, by decide, by decide, by decide⟩
  · exact ⟨36, by decide, by decide, by decide⟩
  · exact ⟨1, by decide, by decide, by decide⟩
theorem dn_pos : ∀ j, 0 < dn j
  | 0 => by decide
  | j + 1 => Nat.mul_pos (dn_pos j) (by omega)
theorem bq_over {M n : Nat} {x : Rat} (h : Bq 6 M x) (hn : 0 < n) : Bq (6 * n) M (x / (((n : Nat) : Int) : Rat)) := by
  have hr : ((n : Int) : Rat) ≠ 0 := by
    have : (n : Int) ≠ 0 := by omega
    exact_mod_cast this
  have e : x / ((n : Int) : Rat) = x * Rat.divInt 1 (n : Int) := by
    rw [Rat.divInt_eq_div]
    have : ((1 : Int) : Rat) = 1 := rfl
    rw [this]
    grind
  have : Bq n 1 (Rat.divInt 1 (n : Int)) := ⟨1, rfl, Nat.le_refl _⟩
  have := h.mul this
  rw [Nat.mul_one] at this
  rw [e]; exact this
theorem beh_ok {F : List Rat} {ls : List Int} {p : Int} {x : Rat} {D A M a : Nat} (hD : 0 < D) (hF : ∀ k, Bq D A (F.getD k 0)) (hx : Bq 6 M x) (h1 : 1 ≤ M) (hA : 1 ≤ A) (ha : a ≤ 6) (lD : D * dC < 2 ^ 4000) (lQ : A * dC * M ^ 6 * 8 < 2 ^ 4000) :
    ∀ (h j : Nat) (term total : Rat), h + j = a → Bq (dn j) (M ^ j) term → Bq (D * dC) (A * dC * M ^ 6 * (1 + j)) total → BehS F ls p x a h term total ∧ Bq (D * dC) (A * dC * M ^ 6 * 8) (behGo F ls p x a h term total) := fun h => by
  have cpos : 0 < dC := by decide
  have hpow : ∀ j, j ≤ 6 → M ^ j ≤ M ^ 6 := fun j hj => Nat.pow_le_pow_right h1 hj
  have hp1 : 1 ≤ M ^ 6 := Nat.pow_pos h1
  have qA : A ≤ A * dC * M ^ 6 := by
    rw [Nat.mul_assoc]
    exact Nat.le_mul_of_pos_right A (Nat.mul_pos cpos hp1)
  have qM : M ^ 6 ≤ A * dC * M ^ 6 := Nat.le_mul_of_pos_left _ (Nat.mul_pos hA cpos)
  have qD : D ≤ D * dC := Nat.le_mul_of_pos_right D cpos
  have qC : dC ≤ D * dC := Nat.le_mul_of_pos_left dC hD
  have big : ∀ j, j ≤ 7 → A * dC * M ^ 6 * j ≤ A * dC * M ^ 6 * 8 := fun j hj => Nat.mul_le_mul_left _ (by omega)
  have one8 : A * dC * M ^ 6 ≤ A * dC * M ^ 6 * 8 := Nat.le_mul_of_pos_right _ (by decide)
  induction h with
  | zero =>
    intro j term total hj ht hs
    exact ⟨trivial, hs.mono (big (1 + j) (by omega))⟩
  | succ h ih =>
    intro j term total hj ht hs
    show (ls.getD h 0 = p → _ ∧ _) ∧ Bq _ _ (if ls.getD h 0 = p then _ else total)
    have en : a - h = j + 1 := by omega
    rw [en]
    have hn := bq_over (n := j + 1) hx (by omega)
    have nt : Bq (dn (j + 1)) (M ^ (j + 1)) (term * (x / (((j + 1 : Nat) : Int) : Rat))) := by
      have := ht.mul hn
      rw [Nat.pow_succ]
      exact this
    obtain ⟨e, e0, eC, ee⟩ := dn_div (j + 1) (by omega)
    have ft : Bq (D * dC) (A * dC * M ^ 6) (F.getD h 0 * (term * (x / (((j + 1 : Nat) : Int) : Rat)))) := by
      have := ((hF h).mul nt).up e e0
      rw [Nat.mul_assoc, ee] at this
      refine this.mono ?_
      rw [Nat.mul_assoc, Nat.mul_assoc]
      refine Nat.mul_le_mul_left A ?_
      rw [Nat.mul_comm dC]
      exact Nat.mul_le_mul (hpow (j + 1) (by omega)) eC
    have hs2 : Bq (D * dC) (A * dC * M ^ 6 * (1 + (j + 1))) (total + F.getD h 0 * (term * (x / (((j + 1 : Nat) : Int) : Rat)))) := by
      refine (Bq.add (Nat.mul_pos hD cpos) hs ft).mono (Nat.le_of_eq ?_)
      rw [show 1 + (j + 1) = (1 + j) + 1 from by omega, Nat.mul_succ]
    obtain ⟨i1, i2⟩ := ih (j + 1) _ _ (by omega) nt hs2
    have dj : dn j ≤ dC := by
      obtain ⟨e', e0', _, ee'⟩ := dn_div j (by omega)
      rw [← ee']; exact Nat.le_mul_of_pos_right _ e0'
    have dj1 : dn (j + 1) ≤ dC := by rw [← ee]; exact Nat.le_mul_of_pos_right _ e0
    have mj := hpow j (by omega)
    have mj1 := hpow (j + 1) (by omega)
    have m1 := hpow 1 (by decide)
    rw [Nat.pow_one] at m1
    have c6 : 6 * (j + 1) ≤ dC := by
      have : 6 * (j + 1) ≤ 36 := by omega
      exact Nat.le_trans this (by decide)
    refine ⟨fun _ => ⟨⟨hn.sm (by omega) (by omega) (by omega), ht.sm (dn_pos j) (by omega) (by omega), nt.sm (dn_pos _) (by omega) (by omega), (hF h).sm hD (by omega) (by omega), ft.sm (Nat.mul_pos hD cpos) lD (by omega), hs.sm (Nat.mul_pos hD cpos) lD (Nat.lt_of_le_of_lt (big (1 + j) (by omega)) lQ)⟩, i1⟩, ?_⟩
    split
    · exact i2
    · exact hs.mono (big (1 + j) (by omega))
theorem bh_len (F : List Rat) (ls : List Int) (p : Int) (x : Rat) : (behL F ls p x).length = F.length := by unfold behL; simp
theorem wo_len (ls : List Int) : ∀ (r : Row) (F : List Rat), (r.foldl (worL ls) F).length = F.length
  | [], F => rfl
  | p :: r, F => by rw [List.foldl_cons, wo_len ls r]; exact bh_len _ _ _ _
theorem beh_bq {F : List Rat} {ls : List Int} {p : Int} {x : Rat} {D A M : Nat} (hD : 0 < D) (hF : ∀ k, Bq D A (F.getD k 0)) (hx : Bq 6 M x) (h1 : 1 ≤ M) (hA : 1 ≤ A) (hl : F.length = ls.length + 1) (ha : ls.length ≤ 6) (lD : D * dC < 2 ^ 4000) (lQ : A * dC * M ^ 6 * 8 < 2 ^ 4000) :
    BehOk F ls p x ∧ ∀ k, Bq (D * dC) (A * dC * M ^ 6 * 8) ((behL F ls p x).getD k 0) := by
  have cpos : 0 < dC := by decide
  have hp1 : 1 ≤ M ^ 6 := Nat.pow_pos h1
  have st : ∀ i, i ≤ 6 → BehS F ls p x i i 1 (F.getD i 0) ∧ Bq (D * dC) (A * dC * M ^ 6 * 8) (behGo F ls p x i i 1 (F.getD i 0)) := fun i hi => by
    refine beh_ok hD hF hx h1 hA hi lD lQ i 0 1 _ (by omega) ((Bq.int 1).mono (by rw [Nat.pow_zero]; decide)) ?_
    refine ((hF i).up dC cpos).mono ?_
    rw [Nat.add_zero, Nat.mul_one]
    exact Nat.le_mul_of_pos_right _ hp1
  refine ⟨⟨hl, by omega, ?_, fun i hi => (st i (by omega)).1⟩, fun k => ?_⟩
  · refine hx.sm (by decide) (p4000 (by decide)) ?_
    have m1 : M ≤ M ^ 6 := by
      have := Nat.pow_le_pow_right h1 (show 1 ≤ 6 by decide)
      rwa [Nat.pow_one] at this
    have : M ^ 6 ≤ A * dC * M ^ 6 * 8 := by
      rw [Nat.mul_right_comm]
      exact Nat.le_mul_of_pos_left _ (Nat.mul_pos (Nat.mul_pos hA cpos) (by decide))
    omega
  · by_cases hk : k < F.length
    · have e : (behL F ls p x).getD k 0 = behGo F ls p x k k 1 (F.getD k 0) := by
        unfold behL
        rw [List.getD_eq_getElem?_getD, List.getElem?_map, List.getElem?_range hk]; rfl
      rw [e]
      exact (st k (by omega)).2
    · have e : (behL F ls p x).getD k 0 = 0 := by
        rw [List.getD_eq_getElem?_getD, List.getElem?_eq_none (by rw [bh_len]; omega)]; rfl
      rw [e]; exact Bq.zero
theorem worth_bq {ls : List Int} {M : Nat} (h1 : 1 ≤ M) (hM : M ≤ 2 ^ 11) (ha : ls.length ≤ 6) : ∀ (r : Row) (i : Nat) (F : List Rat) (D A : Nat), i + r.length ≤ 30 → F.length = ls.length + 1 → 0 < D → D ≤ 2 ^ (26 * i) → 1 ≤ A → A ≤ 2 ^ (95 * i) → (∀ k, Bq D A (F.getD k 0)) → (∀ p ∈ r, Bq 6 M p.2) →
    ∀ j p, r[j]? = some p → BehOk ((r.take j).foldl (worL ls) F) ls p.1 p.2
  | [], _, _, _, _, _, _, _, _, _, _, _, _, j, p, e => by cases e
  | q :: r, i, F, D, A, hi, hl, hD, lD, hA, lA, hF, hr, j, p, e => by
    have c26 : dC ≤ 2 ^ 26 := by decide
    have m66 : M ^ 6 ≤ 2 ^ 66 := by
      have := Nat.pow_le_pow_left hM 6
      rwa [← Nat.pow_mul] at this
    have d2 : D * dC ≤ 2 ^ (26 * (i + 1)) := by
      rw [Nat.mul_succ, Nat.pow_add]
      exact Nat.mul_le_mul lD c26
    have a2 : A * dC * M ^ 6 * 8 ≤ 2 ^ (95 * (i + 1)) := by
      have : dC * M ^ 6 * 8 ≤ 2 ^ 95 := by
        have h3 := Nat.mul_le_mul (Nat.mul_le_mul c26 m66) (Nat.le_refl 8)
        exact Nat.le_trans h3 (by decide)
      rw [show 95 * (i + 1) = 95 * i + 95 from by omega, Nat.pow_add, Nat.mul_assoc, Nat.mul_assoc, ← Nat.mul_assoc dC]
      exact Nat.mul_le_mul lA this
    rw [List.length_cons] at hi
    have lt1 : 2 ^ (26 * (i + 1)) < 2 ^ 4000 := Nat.pow_lt_pow_right (by decide) (by omega)
    have lt2 : 2 ^ (95 * (i + 1)) < 2 ^ 4000 := Nat.pow_lt_pow_right (by decide) (by omega)
    have st := beh_bq (p := q.1) hD hF (hr q (.head _)) h1 hA hl ha (Nat.lt_of_le_of_lt d2 lt1) (Nat.lt_of_le_of_lt a2 lt2)
    cases j with
    | zero =>
      simp only [Option.some.injEq, List.getElem?_cons_zero] at e
      subst e
      exact st.1
    | succ j =>
      rw [List.take_succ_cons, List.foldl_cons]
      refine worth_bq h1 hM ha r (i + 1) _ _ _ (by omega) ((bh_len _ _ _ _).trans hl) (Nat.mul_pos hD (by decide)) d2 ?_ a2 st.2 (fun p hp => hr p (.tail _ hp)) j p (by simpa using e)
      have hp1 : 1 ≤ M ^ 6 := Nat.pow_pos h1
      exact Nat.mul_pos (Nat.mul_pos (Nat.mul_pos hA (by decide)) hp1) (by decide)
theorem worth_okW {t : Row} {u : List Int} {M : Nat} (h1 : 1 ≤ M) (hM : M ≤ 2 ^ 11) (hl : t.length ≤ 30) (hu : u.length ≤ 6) (hq : ∀ p ∈ t, Bq 6 M p.2) : WorthOk t u := by
  refine ⟨fun i p e => worth_bq h1 hM hu t 0 _ 1 1 (by omega) ?_ (by decide) (by decide) (by decide) (by decide) (fun k => ?_) hq i p e⟩
  · rw [List.length_cons, List.length_replicate]
  · cases k with
    | zero => exact (Bq.int 1).mono (by decide)
    | succ k =>
      have : (1 :: List.replicate u.length (0 : Rat)).getD (k + 1) 0 = 0 := by
        rw [List.getD_eq_getElem?_getD, List.getElem?_cons_succ, List.getElem?_replicate]
        split <;> rfl
      rw [this]; exact Bq.zero
/-! the words themselves -/
def lynOk (k : Int) (n : Nat) : Bool := doneL k n 900 [0] && (genL k n 900 [0]).all fun ls => ls.all (fun l => decide (0 ≤ l)) && decide (ls.length ≤ 6)
theorem lyn_ok : ∀ k ∈ [1, 2, 3], ∀ n ∈ [1, 2, 3, 4, 5, 6], lynOk k n = true := by decide +kernel
theorem lyn_ok4 : ∀ n ∈ [1, 2, 3, 4, 5], lynOk 4 n = true := by decide +kernel
theorem gen_len (k : Int) (n : Nat) : ∀ (f : Nat) (w : List Int), (genL k n f w).length ≤ f
  | 0, _ => Nat.le_refl _
  | f + 1, w => by
    unfold genL
    cases nextL k n w with
    | none => simp
    | some v =>
      have := gen_len k n f v
      simp only [List.length_cons]
      omega
theorem word_len (parts ls : List Int) : (wordOf parts ls).length ≤ ls.length := List.length_filterMap_le _ _
theorem pw_ok {t : Row} {M : Nat} (h1 : 1 ≤ M) (hM : M ≤ 2 ^ 11) (hl : t.length ≤ 30) (hq : ∀ p ∈ t, Bq 6 M p.2) (hk : (manyOf t ≤ 3 ∧ topOf t ≤ 6) ∨ (manyOf t ≤ 4 ∧ topOf t ≤ 5)) : PwOk t := by
  have key : ∀ n, 1 ≤ n → n ≤ topOf t → lynOk (manyOf t : Nat) n = true := fun n a b => by
    have m1 : 1 ≤ manyOf t := Nat.le_max_left _ _
    by_cases m4 : manyOf t ≤ 3
    · refine lyn_ok _ ?_ _ ?_
      · rcases (by omega : manyOf t = 1 ∨ manyOf t = 2 ∨ manyOf t = 3) with e | e | e <;> (rw [e]; decide)
      · rcases (by omega : n = 1 ∨ n = 2 ∨ n = 3 ∨ n = 4 ∨ n = 5 ∨ n = 6) with e | e | e | e | e | e <;> (rw [e]; decide)
    · have e4 : manyOf t = 4 := by omega
      rw [e4]
      refine lyn_ok4 _ ?_
      rcases (by omega : n = 1 ∨ n = 2 ∨ n = 3 ∨ n = 4 ∨ n = 5) with e | e | e | e | e <;> (rw [e]; decide)
  refine ⟨by omega, fun n a b => ?_, fun n a b ls hls => ?_, fun n a b => ?_⟩
  · have := key n a b
    unfold lynOk at this
    exact (Bool.and_eq_true _ _ ▸ this).1
  · have hk := key n a b
    unfold lynOk at hk
    rw [Bool.and_eq_true] at hk
    have := List.all_eq_true.mp hk.2 ls (List.mem_mergeSort.mp hls)
    rw [Bool.and_eq_true] at this
    have h6 := of_decide_eq_true this.2
    refine ⟨fun l hl => of_decide_eq_true (List.all_eq_true.mp this.1 l hl), by omega, fun _ => worth_okW h1 hM hl (Nat.le_trans (word_len _ _) h6) hq⟩
  · unfold lynS
    rw [List.length_mergeSort]
    exact Nat.le_trans (gen_len _ _ _ _) (by decide)
end K37
namespace K37
open PySem PySem.Spec L2
local macro_rules | `(tactic| walk_at "sz") => `(tactic| first | assumption | decide | omega)
local macro_rules | `(tactic| walk_at "call") => `(tactic| fail "no call")
local macro_rules | `(tactic| walk_at "cb") => `(tactic| first
  | with_reducible exact gcd_D | with_reducible exact len_T | with_reducible exact len_L | with_reducible exact tuple_L | with_reducible exact tuple_T | with_reducible exact max_D | with_reducible exact min_D | with_reducible exact abs_D
  | with_reducible exact int_D | with_reducible exact int_B)
local macro_rules | `(tactic| walk_at "op") => `(tactic| first
  | with_reducible exact minus_int | with_reducible exact plus_int | ((with_reducible apply times_int); walk_at "sz") | ((with_reducible apply ix_tupD); exact rfl) | ((with_reducible apply ix_lstD); exact rfl)
  | with_reducible exact lt_intD | with_reducible exact le_intD | with_reducible exact gt_intD | with_reducible exact ge_intD
  | ((with_reducible apply eq_D) <;> first | exact rfl | exact fr_shaped _ | assumption) | ((with_reducible apply ne_D) <;> first | exact rfl | exact fr_shaped _ | assumption)
  | ((with_reducible apply fdiv_int); walk_at "sz") | ((with_reducible apply fmod_int); walk_at "sz")
  | ((with_reducible apply plus_tup); walk_at "sz") | ((with_reducible apply plus_lst); walk_at "sz"))
local macro_rules | `(tactic| walk_at "evs") => `(tactic| first
  | with_reducible exact evds_nil
  | ((with_reducible apply evds_cons); (· walk_at "ev"); (· walk_at "evs")))
local macro_rules | `(tactic| walk_at "ev") => `(tactic| first
  | assumption
  | ((with_reducible apply evd_var); exact rfl)
  | with_reducible exact evd_int | with_reducible exact evd_cst | with_reducible exact evd_non | with_reducible exact evd_bl
  | ((with_reducible apply evd_op); (· walk_at "ev"); (· walk_at "ev"); (· walk_at "op"))
  | ((with_reducible apply evd_un); (· walk_at "ev"); (· with_reducible exact neg_intD))
  | ((with_reducible apply evd_call); (· walk_at "evs"); (· walk_at "call"))
  | ((with_reducible apply evd_cb); (· walk_at "evs"); (· walk_at "cb"))
  | ((with_reducible apply evd_tup); (· walk_at "evs"); (· exact Nat.le_of_ble_eq_true rfl))
  | ((with_reducible apply evd_isN); walk_at "ev") | ((with_reducible apply evd_notN); walk_at "ev")
  | ((with_reducible apply evd_not); walk_at "ev"))
local macro_rules | `(tactic| walk_at "te") => `(tactic| first
  | ((with_reducible apply ted_test); walk_at "ev") | ((with_reducible apply ted_B); walk_at "ev") | ((with_reducible apply ted_not); walk_at "te"))

/-- a list of coefficients of the law's own -/
def BitL (p : List Rat) (bs : List PyData) : Prop := bs.length = p.length ∧ ∀ (i : Nat) (x : Rat) (b : PyData), p[i]? = some x → bs[i]? = some b → Bit x b
theorem bit_fr (p : List Rat) : BitL p (p.map fr) := by
  refine ⟨by simp, fun i x b hx hb => ?_⟩
  rw [List.getElem?_map, hx] at hb
  cases hb
  exact .inl rfl
theorem bit_nil : BitL [] [] := bit_fr []
theorem bit_one : BitL [1] [.int 1] := by
  refine ⟨rfl, fun i x b hx hb => ?_⟩
  cases i with
  | zero => cases hx; cases hb; exact .inr ⟨1, rfl, rfl⟩
  | succ i => cases hx
theorem c_padd {p q : List Rat} {bs cs : List PyData} (hb : BitL p bs) (hc : BitL q cs) (hp : SmL p) (hq : SmL q) : fPadd [.list bs, .list cs] (plL (padd p q)) := ⟨p, q, bs, cs, rfl, hb.1, hc.1, hb.2, hc.2, hp, hq, rfl⟩
def fPtim (ds : List PyData) (d : PyData) : Prop := ∃ (p : List Rat) (bs : List PyData) (x : Rat), ds = [.list bs, fr x] ∧ BitL p bs ∧ SmL p ∧ Sm 4000 x ∧ SmL (p.map (· * x)) ∧ d = plL (ptim p x)
def fPlat (ds : List PyData) (d : PyData) : Prop := ∃ (p : List Rat) (bs : List PyData) (x : Rat), ds = [.list bs, fr x] ∧ BitL p bs ∧ SmL p ∧ Sm 4000 x ∧ SmL (0 :: p.map (· * x)) ∧ d = plL (plat p x)
theorem sml_nil : SmL [] := ⟨Nat.zero_le _, fun c h => by cases h⟩
section
variable {P : Program} {w : World} {K : PySem.W.Frag} {mg : Str → Option Value} {base : Heap} {T : Tb}
theorem sc__law_poly_times : FnScope ["_law_one", "_law_much_here", "_law_bit"] ["_law_one", "_law_much_here"] (defScope (top 87)) := ⟨rfl, rfl, rfl, by decide +kernel, rfl, by decide +kernel, by decide +kernel⟩
theorem d_law_poly_times (C : CT P w K mg base T) : Df P w K mg base "_law_poly_times" 4 ["_law_one", "_law_much_here"] (spF T K fPtim) := by
  refine df_of C (i := 69) (x := "_law_poly_times") (N := ["_law_one", "_law_much_here", "_law_bit"]) (n := 1) rfl sc__law_poly_times (fun _ _ _ _ _ _ us hl => match us, hl with | [_, _], _ => rfl) ?_ rfl fun cdv A outer s H E fa hr => ⟨_, (pss_one (ps_ret (pe_dfK (d_law_poly_add C) rfl rfl rfl rfl rfl hr (by rfl) (pa_cons (pe_lc rfl sc__law_poly_times.nd (pi_seqK K rfl (pv 0)) (blkOk_by (own := [("_law_bit", 2)]) (by kernel_rfl)) (fun _ _ _ _ _ => (pg_name (i := 2) sc__law_poly_times.nd rfl (by first | exact Or.inl rfl | exact Or.inr rfl))) (fun _ _ _ _ _ => pts_nil) (fun _ _ _ _ _ => (pe_dfK (d_law_mul C) rfl rfl rfl rfl rfl hr (by rfl) (pa_cons (pe_dfK (d_law_frac C) rfl rfl rfl rfl rfl hr (by rfl) (pa_cons (pv 2) pa_nil)) (pa_cons (pv 1) pa_nil))))) (pa_cons (pe_lst pa_nil) pa_nil))))), ?_⟩
  · rintro _ _ ⟨p, bs, x, rfl, hb, hp, hx, hpx, rfl⟩
    rfl
  · rintro _ _ ⟨p, bs, x, rfl, hb, hp, hx, hpx, rfl⟩
    have lp := hp.1
    have lb := hb.1
    refine std_ret (evd_call (evds_cons (evf_lc (js := [2]) ((p.map (· * x)).map fr) (itd_L (ds := bs) (by walk_at "ev")) (by decide) (by simp; omega) (by omega) ?_).ev (evds_cons (evf_lst evds_nil (Nat.zero_le _)).ev evds_nil)) (c_padd (bit_fr _) bit_nil hpx sml_nil))
    intro i d e hd he
    rw [List.getElem?_map, List.getElem?_map] at he
    cases hy : p[i]? with
    | none => rw [hy] at he; cases he
    | some y =>
      rw [hy] at he
      cases he
      have h1 := hp.2 y (mem_get hy)
      have h2 := hb.2 i y d hy hd
      exact ⟨_, tgd_name, evd_call (evds_cons (evd_call (evds_cons (evd_var rfl) evds_nil) (c_frac h2)) (evds_cons (evd_var rfl) evds_nil)) (c_times h1 hx)⟩
theorem sc__law_poly_later : FnScope ["_law_one", "_law_much_here", "_law_bit"] ["_law_one", "_law_much_here"] (defScope (top 88)) := ⟨rfl, rfl, rfl, by decide +kernel, rfl, by decide +kernel, by decide +kernel⟩
theorem d_law_poly_later (C : CT P w K mg base T) : Df P w K mg base "_law_poly_later" 4 ["_law_one", "_law_much_here"] (spF T K fPlat) := by
  refine df_of C (i := 70) (x := "_law_poly_later") (N := ["_law_one", "_law_much_here", "_law_bit"]) (n := 1) rfl sc__law_poly_later (fun _ _ _ _ _ _ us hl => match us, hl with | [_, _], _ => rfl) ?_ rfl fun cdv A outer s H E fa hr => ⟨_, (pss_one (ps_ret (pe_dfK (d_law_poly_add C) rfl rfl rfl rfl rfl hr (by rfl) (pa_cons (pe_op (op_plusK K rfl) (pe_lst (pa_cons (pe_tup (pa_cons pe_int (pa_cons pe_int pa_nil))) pa_nil)) (pe_lc rfl sc__law_poly_later.nd (pi_seqK K rfl (pv 0)) (blkOk_by (own := [("_law_bit", 2)]) (by kernel_rfl)) (fun _ _ _ _ _ => (pg_name (i := 2) sc__law_poly_later.nd rfl (by first | exact Or.inl rfl | exact Or.inr rfl))) (fun _ _ _ _ _ => pts_nil) (fun _ _ _ _ _ => (pe_dfK (d_law_mul C) rfl rfl rfl rfl rfl hr (by rfl) (pa_cons (pe_dfK (d_law_frac C) rfl rfl rfl rfl rfl hr (by rfl) (pa_cons (pv 2) pa_nil)) (pa_cons (pv 1) pa_nil)))))) (pa_cons (pe_lst pa_nil) pa_nil))))), ?_⟩
  · rintro _ _ ⟨p, bs, x, rfl, hb, hp, hx, hpx, rfl⟩
    rfl
  · rintro _ _ ⟨p, bs, x, rfl, hb, hp, hx, hpx, rfl⟩
    have lp := hp.1
    have lb := hb.1
    have ez : plL (plat p x) = plL (padd (0 :: p.map (· * x)) []) := rfl
    rw [ez]
    refine std_ret (evd_call (evds_cons (EvD.is (evd_op (evf_lst (evds_cons (evd_tup (evds_cons evd_int (evds_cons evd_int evds_nil)) (Nat.le_of_ble_eq_true rfl)) evds_nil) (Nat.le_of_ble_eq_true rfl)).ev (evf_lc (js := [2]) ((p.map (· * x)).map fr) (itd_L (ds := bs) (by walk_at "ev")) (by decide) (by simp; omega) (by omega) ?_).ev (plus_lst (by simp; omega))) rfl) (evds_cons (evf_lst evds_nil (Nat.zero_le _)).ev evds_nil)) (c_padd (p := 0 :: p.map (· * x)) (bs := fr 0 :: (p.map (· * x)).map fr) (bit_fr (0 :: p.map (· * x))) bit_nil hpx sml_nil))
    intro i d e hd he
    rw [List.getElem?_map, List.getElem?_map] at he
    cases hy : p[i]? with
    | none => rw [hy] at he; cases he
    | some y =>
      rw [hy] at he
      cases he
      have h1 := hp.2 y (mem_get hy)
      have h2 := hb.2 i y d hy hd
      exact ⟨_, tgd_name, evd_call (evds_cons (evd_call (evds_cons (evd_var rfl) evds_nil) (c_frac h2)) (evds_cons (evd_var rfl) evds_nil)) (c_times h1 hx)⟩
theorem c_ptim {p : List Rat} {bs : List PyData} {x : Rat} (hb : BitL p bs) (hp : SmL p) (hx : Sm 4000 x) (h : SmL (p.map (· * x))) : fPtim [.list bs, fr x] (plL (ptim p x)) := ⟨p, bs, x, rfl, hb, hp, hx, h, rfl⟩
theorem c_plat {p : List Rat} {bs : List PyData} {x : Rat} (hb : BitL p bs) (hp : SmL p) (hx : Sm 4000 x) (h : SmL (0 :: p.map (· * x))) : fPlat [.list bs, fr x] (plL (plat p x)) := ⟨p, bs, x, rfl, hb, hp, hx, h, rfl⟩
/-- a sheet -/
def shD (a b c d : List PyData) : PyData := .list [.list [.list a, .list b], .list [.list c, .list d]]
def fShown (ds : List PyData) (d : PyData) : Prop := ∃ (t : Tbl) (a b c e : List PyData), ds = [shD a b c e] ∧ (BitL t.1.1 a ∧ BitL t.1.2 b) ∧ (BitL t.2.1 c ∧ BitL t.2.2 e) ∧ (t.1.1.length ≤ 500 ∧ t.1.2.length ≤ 500) ∧ (t.2.1.length ≤ 500 ∧ t.2.2.length ≤ 500) ∧ d = tft t
theorem shown_in {p : List Rat} {bs : List PyData} {x y : PyData} (hb : BitL p bs) (hl : p.length ≤ 500) :
    EvD T K (tCB (rTupO K) (tCons (tLc (iSeq K (tVar 2)) (gName 3) tYes (tCall (spF T K fFrac) [] E0 (tCons (tVar 3) tNil)) [3]) tNil)) [.dat x, .dat y, .dat (.list bs), .any] (pl p) := by
  have lb := hb.1
  refine evd_cb (evds_cons (evf_lc (js := [3]) (p.map fr) (itd_L (ds := bs) (evd_var rfl)) (by decide) (by simp; omega) (by omega) ?_).ev evds_nil) tuple_L
  intro i d e hd he
  rw [List.getElem?_map] at he
  cases hy : p[i]? with
  | none => rw [hy] at he; cases he
  | some y =>
    rw [hy] at he
    cases he
    exact ⟨_, tgd_name, evd_call (evds_cons (evd_var rfl) evds_nil) (c_frac (hb.2 i y d hy hd))⟩
theorem shown_line {u : Po × Po} {a b : List PyData} {x : PyData} (ha : BitL u.1 a) (hb : BitL u.2 b) (l1 : u.1.length ≤ 500) (l2 : u.2.length ≤ 500) :
    EvD T K (tCB (rTupO K) (tCons (tLc (iSeq K (tVar 1)) (gName 2) tYes (tCB (rTupO K) (tCons (tLc (iSeq K (tVar 2)) (gName 3) tYes (tCall (spF T K fFrac) [] E0 (tCons (tVar 3) tNil)) [3]) tNil)) [2]) tNil)) [.dat x, .dat (.list [.list a, .list b]), .any, .any] (tt2 u) := by
  refine evd_cb (evds_cons (evf_lc (js := [2]) [pl u.1, pl u.2] (itd_L (ds := [.list a, .list b]) (evd_var rfl)) (by decide) rfl (Nat.le_of_ble_eq_true rfl) ?_).ev evds_nil) tuple_L
  intro i d e hd he
  match i, hd, he with
  | 0, hd, he => cases hd; cases he; exact ⟨_, tgd_name, shown_in ha l1⟩
  | 1, hd, he => cases hd; cases he; exact ⟨_, tgd_name, shown_in hb l2⟩
  | _ + 2, hd, he => cases hd
theorem sc__law_shown : FnScope ["_law_table_so", "_law_line", "_law_own", "_law_bit"] ["_law_table_so"] (defScope (top 89)) := ⟨rfl, rfl, rfl, by decide +kernel, rfl, by decide +kernel, by decide +kernel⟩
theorem d_law_shown (C : CT P w K mg base T) : Df P w K mg base "_law_shown" 2 ["_law_table_so"] (spF T K fShown) := by
  refine df_of C (i := 71) (x := "_law_shown") (N := ["_law_table_so", "_law_line", "_law_own", "_law_bit"]) (n := 3) rfl sc__law_shown (fun _ _ _ _ _ _ us hl => match us, hl with | [_], _ => rfl) ?_ rfl fun cdv A outer s H E fa hr => ⟨_, (pss_one (ps_ret (pe_callTy (call_tupleK K rfl) (by rfl) (C.free 16 _ rfl) (by decide +kernel) (pa_cons (pe_lc rfl sc__law_shown.nd (pi_seqK K rfl (pv 0)) (blkOk_by (own := [("_law_line", 1)]) (by kernel_rfl)) (fun _ _ _ _ _ => (pg_name (i := 1) sc__law_shown.nd rfl (by first | exact Or.inl rfl | exact Or.inr rfl))) (fun _ _ _ _ _ => pts_nil) (fun _ _ _ _ _ => (pe_callTy (call_tupleK K rfl) (by rfl) (C.free 16 _ rfl) (by decide +kernel) (pa_cons (pe_lc rfl sc__law_shown.nd (pi_seqK K rfl (pv 1)) (blkOk_by (own := [("_law_own", 2)]) (by kernel_rfl)) (fun _ _ _ _ _ => (pg_name (i := 2) sc__law_shown.nd rfl (by first | exact Or.inl rfl | exact Or.inr rfl))) (fun _ _ _ _ _ => pts_nil) (fun _ _ _ _ _ => (pe_callTy (call_tupleK K rfl) (by rfl) (C.free 16 _ rfl) (by decide +kernel) (pa_cons (pe_lc rfl sc__law_shown.nd (pi_seqK K rfl (pv 2)) (blkOk_by (own := [("_law_bit", 3)]) (by kernel_rfl)) (fun _ _ _ _ _ => (pg_name (i := 3) sc__law_shown.nd rfl (by first | exact Or.inl rfl | exact Or.inr rfl))) (fun _ _ _ _ _ => pts_nil) (fun _ _ _ _ _ => (pe_dfK (d_law_frac C) rfl rfl rfl rfl rfl hr (by rfl) (pa_cons (pv 3) pa_nil)))) pa_nil)))) pa_nil)))) pa_nil)))), ?_⟩
  · rintro _ _ ⟨t, a, b, c, e, rfl, ⟨h1, h2⟩, ⟨h3, h4⟩, ⟨l1, l2⟩, ⟨l3, l4⟩, rfl⟩
    rfl
  · rintro _ _ ⟨t, a, b, c, e, rfl, ⟨h1, h2⟩, ⟨h3, h4⟩, ⟨l1, l2⟩, ⟨l3, l4⟩, rfl⟩
    refine std_ret (evd_cb (evds_cons (evf_lc (js := [1]) [tt2 t.1, tt2 t.2] (itd_L (ds := [.list [.list a, .list b], .list [.list c, .list e]]) (evd_var rfl)) (by decide) rfl (Nat.le_of_ble_eq_true rfl) ?_).ev evds_nil) tuple_L)
    intro i d e hd he
    match i, hd, he with
    | 0, hd, he => cases hd; cases he; exact ⟨_, tgd_name, shown_line h1 h2 l1 l2⟩
    | 1, hd, he => cases hd; cases he; exact ⟨_, tgd_name, shown_line h3 h4 l3 l4⟩
    | _ + 2, hd, he => cases hd
theorem c_shown {t : Tbl} {a b c e : List PyData} (h1 : BitL t.1.1 a ∧ BitL t.1.2 b) (h2 : BitL t.2.1 c ∧ BitL t.2.2 e) (h3 : t.1.1.length ≤ 500 ∧ t.1.2.length ≤ 500) (h4 : t.2.1.length ≤ 500 ∧ t.2.2.length ≤ 500) : fShown [shD a b c e] (tft t) := ⟨t, a, b, c, e, rfl, h1, h2, h3, h4, rfl⟩
end
end K37
namespace K37
open PySem PySem.Spec L2
/-! ### what stood there before is changed in place -/
theorem tabs_upd {T : Tb} {H : Hp} {p : Addr} {vs ws : List V} (t1 : LamX.Tabs T H) (h : H p = some (.lst vs)) : LamX.Tabs T (upd H p (.lst ws)) := by
  intro q hq
  obtain ⟨ps, e1, e2, e3⟩ := t1 q hq
  have n1 : q.1 ≠ p := ne_of e1 h (by intro z; cases z)
  refine ⟨ps, by rw [upd_ne n1]; exact e1, e2, fun pos cv hc => ?_⟩
  obtain ⟨c, e4, e5⟩ := e3 pos cv hc
  have n2 : c ≠ p := ne_of e5 h (by unfold LamX.CodeO; intro z; cases z)
  exact ⟨c, e4, by rw [upd_ne n2]; exact e5⟩
theorem upd_upd {H : Hp} {p : Addr} {o u : HO} : upd (upd H p o) p u = upd H p u := by
  funext a
  by_cases h : a = p
  · subst h; rw [upd_same, upd_same]
  · rw [upd_ne h, upd_ne h, upd_ne h]
theorem upd_back {H : Hp} {p : Addr} {o : HO} (h : H p = some o) : upd H p o = H := by
  funext a
  by_cases e : a = p
  · subst e; rw [upd_same, h]
  · rw [upd_ne e]
theorem Gw.base {T : Tb} {G0 H0 G H : Hp} {p : Addr} {vs ws : List V} (g : Gw T G0 H0 G H) (h0 : H0 p = some (.lst vs)) (gp : G p = none) : Gw T G0 (upd H0 p (.lst ws)) G (upd H p (.lst ws)) := by
  have hp := g.keep h0 fun z => z
  refine ⟨fun a o e => ?_, g.le, ⟨fun a o e => ?_, g.sub.nt⟩, fun a o e => ?_, fun t => ?_⟩
  · by_cases z : a = p
    · subst z; rw [upd_same] at e; exact .inl (by rw [upd_same]; exact e)
    · rw [upd_ne z] at e
      rcases g.ex a o e with h1 | ⟨t, u, h1, t1⟩
      · exact .inl (by rw [upd_ne z]; exact h1)
      · exact .inr ⟨t, u, by rw [upd_ne z]; exact h1, t1⟩
  · rw [upd_ne (ne_of_none e gp)]; exact g.sub.le a o e
  · rcases g.fresh a o e with h1 | h1
    · exact .inl h1
    · exact .inr (by rw [upd_ne (ne_of_none e gp)]; exact h1)
  · have t0 := tabs_upd (ws := vs) t (upd_same (a := p))
    rw [upd_upd, upd_back h0] at t0
    exact tabs_upd (g.tabs t0) hp
def bare : Sl → Bool
  | .urn _ _ => false
  | .cel _ _ _ _ _ => false
  | .scr _ _ => false
  | _ => true
theorem slok_base {K : PySem.W.Frag} {H0 G H : Hp} {o : Option V} {s : Sl} {p : Addr} {vs ws : List V} (h : SlOk K H0 G H o s) (hs : bare s = true) (h0 : H0 p = some (.lst vs)) (hp : H p = some (.lst vs)) : SlOk K (upd H0 p (.lst ws)) G (upd H p (.lst ws)) o s := by
  cases s with
  | any => trivial
  | dat d => exact h
  | own ds =>
    obtain ⟨q, us, e, hq, g, h1, qa⟩ := h
    have n : q ≠ p := fun z => by subst z; rw [h0] at hq; cases hq
    exact ⟨q, us, e, by rw [upd_ne n]; exact hq, g, by rw [upd_ne n]; exact h1, qa⟩
  | dic i j d =>
    obtain ⟨a, v, e, ha, q⟩ := h
    have n : a ≠ p := ne_of ha hp (fun z => nomatch z)
    exact ⟨a, v, e, by rw [upd_ne n]; exact ha, q⟩
  | urn _ _ => cases hs
  | cel _ _ _ _ _ => cases hs
  | scr _ _ => cases hs
section
variable {T : Tb} {K : PySem.W.Frag} {ρ ρ' ρ1 ρ2 : List Sl} {ta tb te : TE} {d : PyData} {t u : TS} {A : List Addr}
/-- slot i and the base change at p -/
theorem En.base {H0 G H : Hp} {σ : L2.St} (x : En K H0 G H σ ρ) {i : Nat} {s s' : Sl} {p : Addr} {vs ws : List V} (e : ρ[i]? = some s) (hb : bare s = false) (hb' : bare s' = false) (hp : ∀ j t, j ≠ i → ρ[j]? = some t → bare t = true) (h0 : H0 p = some (.lst vs)) (h : H p = some (.lst vs))
    (ok : ∀ o, SlOk K H0 G H o s → SlOk K (upd H0 p (.lst ws)) G (upd H p (.lst ws)) o s') : En K (upd H0 p (.lst ws)) G (upd H p (.lst ws)) σ (ρ.set i s') := by
  have hl : i < ρ.length := (List.getElem?_eq_some_iff.mp e).1
  have no : ∀ {u : Sl} {dd : List PyData}, bare u = false → u ≠ .own dd := fun hu z => by subst z; cases hu
  refine ⟨by simp [x.len], fun j t ej => ?_, fun j k dj dk q hjk ej ek sj sk => ?_⟩
  · by_cases hj : i = j
    · subst hj
      rw [List.getElem?_set_self hl] at ej
      cases ej
      obtain ⟨o, e1, q⟩ := x.ok i s e
      exact ⟨o, e1, ok o q⟩
    · rw [List.getElem?_set_ne hj] at ej
      obtain ⟨o, e1, q⟩ := x.ok j t ej
      exact ⟨o, e1, slok_base q (hp j t (Ne.symm hj) ej) h0 h⟩
  · by_cases hj : i = j
    · subst hj
      rw [List.getElem?_set_self hl] at ej
      exact absurd (Option.some.inj ej) (no hb')
    · by_cases hk : i = k
      · subst hk
        rw [List.getElem?_set_self hl] at ek
        exact absurd (Option.some.inj ek) (no hb')
      · rw [List.getElem?_set_ne hj] at ej
        rw [List.getElem?_set_ne hk] at ek
        exact x.sep j k dj dk q hjk ej ek sj sk
/-- alone of its kind -/
def Sole (ρ : List Sl) (i : Nat) : Prop := ∀ j t, j ≠ i → ρ[j]? = some t → bare t = true
/-! ### statements that change the base at the addresses A -/
def Off (A : List Addr) (H0 H1 : Hp) : Prop := ∀ x, x ∉ A → H1 x = H0 x
theorem Off.refl (H0 : Hp) : Off A H0 H0 := fun _ _ => rfl
theorem Off.trans {H0 H1 H2 : Hp} (a : Off A H0 H1) (b : Off A H1 H2) : Off A H0 H2 := fun x hx => (b x hx).trans (a x hx)
theorem Off.upd {H0 : Hp} {p : Addr} {o : HO} (h : p ∈ A) : Off A H0 (L2.upd H0 p o) := fun x hx => upd_ne fun z => hx (z ▸ h)
def StB (T : Tb) (K : PySem.W.Frag) (A : List Addr) (ts : TS) (ρ ρ' : List Sl) : Prop :=
  ∀ G0 H0 σ G H D, LamX.Tabs T H0 → Gw T G0 H0 G H → En K H0 G H σ ρ → (∀ σ' G' H1 H', Off A H0 H1 → LamX.Tabs T H1 → Gw T G0 H1 G' H' → Le G G' → En K H1 G' H' σ' ρ' → D.nx σ' H') → ts D σ H
theorem StD.b (h : StD T K t ρ (.nx ρ')) : StB T K A t ρ ρ' := fun G0 H0 σ G H D tb g x p =>
  h G0 H0 σ G H D tb g x fun σ1 G1 H1 g1 l1 x1 => p σ1 G1 H0 H1 (.refl _) tb g1 l1 x1
theorem stb_seq (h1 : StB T K A t ρ ρ1) (h2 : StB T K A u ρ1 ρ2) : StB T K A (tSeq t u) ρ ρ2 := fun G0 H0 σ G H D tb g x p =>
  h1 G0 H0 σ G H _ tb g x fun σ1 G1 H1 H2 o1 t1 g1 l1 x1 => h2 G0 H1 σ1 G1 H2 D t1 g1 x1 fun σ2 G2 H3 H4 o2 t2 g2 l2 x2 => p σ2 G2 H3 H4 (o1.trans o2) t2 g2 (l1.trans l2) x2
theorem stb_for {wi : TI} {g : TG} {tb : TS} {js : List Nat} {ds : List PyData} (ρs : Nat → List Sl) (hi : ItD T K wi (ρs 0) ds) (hs : ∀ (i : Nat) d, ds[i]? = some d → ∃ ρ1, TgD K g js d (ρs i) ρ1 ∧ StB T K A tb ρ1 (ρs (i + 1))) : StB T K A (tFor wi g tb) (ρs 0) (ρs ds.length) := fun G0 H0 σ G H D tbs gw x p =>
  hi H0 G H σ gw.sub (gw.tabs tbs) x _ fun J G1 H1 g1 w => by
    refine ⟨fun i m σ H => m = ds.length - i ∧ i ≤ ds.length ∧ ∃ G B, Off A H0 B ∧ LamX.Tabs T B ∧ Le G1 G ∧ Gw T G0 B G H ∧ En K B G H σ (ρs i), ⟨_, rfl, Nat.zero_le _, G1, H0, .refl _, tbs, .refl _, gw.trans g1, x.gw g1⟩, ?_⟩
    rintro i m σ2 H2 ⟨rfl, hle, G2, B2, o2, t2, l2, g2, x2⟩
    by_cases hlt : i < ds.length
    · refine .inr ⟨w.go i G2 H2 l2 g2.sub hlt, fun σ3 H3 => ∃ G B, Off A H0 B ∧ LamX.Tabs T B ∧ Le G1 G ∧ Gw T G0 B G H3 ∧ En K B G H3 σ3 (ρs (i + 1)), fun σ3 H3 ⟨G3, B3, o, t, a, b, c⟩ => ⟨ds.length - (i + 1), by omega, rfl, hlt, G3, B3, o, t, a, b, c⟩, fun v H3 y => ?_⟩
      obtain ⟨ρ1, ht, hb⟩ := hs i _ (List.getElem?_eq_getElem hlt)
      obtain ⟨G3, g3, q3⟩ := w.yld i G2 H2 v H3 _ l2 g2.sub y (List.getElem?_eq_getElem hlt)
      refine ht B2 G3 H3 σ2 v g3.sub (x2.gw g3) q3 _ fun σ4 x4 _ => ?_
      exact hb G0 B2 σ4 G3 H3 _ t2 (g2.trans g3) x4 fun σ5 G5 B5 H5 o5 t5 g5 l5 x5 => ⟨G5, B5, o2.trans o5, t5, l2.trans (g3.le.trans l5), g5, x5⟩
    · have e : i = ds.length := by omega
      subst e
      exact .inl ⟨w.stop G2 H2 l2 g2.sub, p _ G2 B2 H2 o2 t2 g2 (g1.le.trans l2) x2⟩
/-! ### two lists in a list -/
theorem En.cel {H0 G H : Hp} {σ : L2.St} (x : En K H0 G H σ ρ) {i : Nat} {q a b : Addr} {ds es : List PyData} (e : ρ[i]? = some (.cel q a b ds es)) : σ[i]? = some (some (.ref q)) ∧ SlOk K H0 G H (some (.ref q)) (.cel q a b ds es) := by
  obtain ⟨o, e1, h⟩ := x.ok i _ e
  have : o = some (.ref q) := h.1
  subst this
  exact ⟨e1, h⟩
theorem at_ref {K : PySem.W.Frag} {H : Hp} {q a b : Addr} {Q : VK} {σ : L2.St} {i : Nat} (e : σ[i]? = some (some (.ref q))) (h : H q = some (.lst [.ref a, .ref b])) : (Q (.ref a) H → tOp (rIx K) (tVar i) (tC (.int 0)) σ H Q) ∧ (Q (.ref b) H → tOp (rIx K) (tVar i) (tC (.int 1)) σ H Q) :=
  ⟨fun k => ⟨_, e, .inl ⟨q, _, 0, _, rfl, rfl, SqL.of h, rfl, k⟩⟩, fun k => ⟨_, e, .inl ⟨q, _, 1, _, rfl, rfl, SqL.of h, rfl, k⟩⟩⟩
theorem ix_lstV {K : PySem.W.Frag} {G H : Hp} {p : Addr} {vs : List V} {xs : List PyData} {k : Int} {c : PyData} {Q : VK} (hp : H p = some (.lst vs)) (qa : DqAll K G vs xs) (h : atI xs k = some c) (q : ∀ v, Dq K G v c → Q v H) : rIx K (.ref p) (.int k) H Q := by
  obtain ⟨j, hj, hc⟩ : ∃ j, ixN xs.length k = some j ∧ xs[j]? = some c := by
    unfold atI at h
    cases e : ixN xs.length k with
    | none => (rw [e] at h; cases h)
    | some j => rw [e] at h; exact ⟨j, rfl, h⟩
  obtain ⟨v, hv, qv⟩ := qa.get hc
  refine .inl ⟨_, _, k, v, rfl, rfl, SqL.of hp, ?_, q v qv⟩
  unfold atI
  rw [qa.length, hj]
  exact hv
theorem evd_ixCel0 {i : Nat} {q a b : Addr} {ds es : List PyData} {k : Int} (e : ρ[i]? = some (.cel q a b ds es)) (hk : EvD T K tb ρ (.int k)) (h : atI ds k = some d) : EvD T K (tOp (rIx K) (tOp (rIx K) (tVar i) (tC (.int 0))) tb) ρ d := fun H0 G H σ s t x Q c => by
  obtain ⟨e1, _, _, b0, va, vb, ⟨b1, q1⟩, b2, q2⟩ := x.cel e
  refine (at_ref e1 b0.1).1 (hk H0 G H σ s t x _ fun w G1 H1 g1 qw => ?_)
  cases qw
  exact ix_lstV (b1.gw g1).1 (q1.le g1.le) h fun v qv => c v G1 H1 g1 qv
theorem evd_ixCel1 {i : Nat} {q a b : Addr} {ds es : List PyData} {k : Int} (e : ρ[i]? = some (.cel q a b ds es)) (hk : EvD T K tb ρ (.int k)) (h : atI es k = some d) : EvD T K (tOp (rIx K) (tOp (rIx K) (tVar i) (tC (.int 1))) tb) ρ d := fun H0 G H σ s t x Q c => by
  obtain ⟨e1, _, _, b0, va, vb, ⟨b1, q1⟩, b2, q2⟩ := x.cel e
  refine (at_ref e1 b0.1).2 (hk H0 G H σ s t x _ fun w G1 H1 g1 qw => ?_)
  cases qw
  exact ix_lstV (b2.gw g1).1 (q2.le g1.le) h fun v qv => c v G1 H1 g1 qv
theorem ixN_nat {n k : Nat} (h : k < n) : ixN n (k : Int) = some k := by
  unfold ixN
  rw [if_pos (by omega)]; rw [if_pos (by omega)]
  simp
theorem stb_cel0 {i k : Nat} {q a b : Addr} {ds es : List PyData} (hA : a ∈ A) (e : ρ[i]? = some (.cel q a b ds es)) (so : Sole ρ i) (h : EvD T K te ρ d) (hk : EvD T K tb ρ (.int (k : Int))) (hl : k < ds.length) : StB T K A (tAsg te (gSub (tOp (rIx K) (tVar i) (tC (.int 0))) tb rSetL)) ρ (ρ.set i (.cel q a b (ds.set k d) es)) := fun G0 H0 σ G H D tbs g x p => by
  refine h H0 G H σ g.sub (g.tabs tbs) x _ fun v G1 H1 g1 qv => ?_
  have x1 := x.gw g1
  obtain ⟨e1, _, ne, b0, va, vb, ⟨b1, q1⟩, b2, q2⟩ := x1.cel e
  refine (at_ref e1 b0.1).1 (hk H0 G1 H1 σ g1.sub (g1.tabs (g.tabs tbs)) x1 _ fun w G2 H2 g2 qw => ?_)
  cases qw
  have x2 := x1.gw g2
  have c1 := b1.gw g2
  have gg := (g.trans g1).trans g2
  refine ⟨a, va, (k : Int), k, rfl, rfl, c1.1, ixN_nat (by rw [q1.length]; exact hl), ?_⟩
  refine p σ G2 _ _ (.upd hA) (tabs_upd tbs c1.2.1) (gg.base c1.2.1 c1.2.2) (g1.le.trans g2.le) ?_
  refine x2.base e rfl rfl so c1.2.1 c1.1 fun o ho => ?_
  have : o = some (.ref q) := ho.1
  subst this
  have nq : q ≠ a := ne.1
  have nb : b ≠ a := fun z => ne.2.2 z.symm
  have c0 := b0.gw g2
  have c2 := b2.gw g2
  exact ⟨rfl, ne, ⟨by rw [upd_ne nq]; exact c0.1, by rw [upd_ne nq]; exact c0.2.1, c0.2.2⟩, _, vb, ⟨⟨upd_same, upd_same, c1.2.2⟩, DqAll.set (qv.le g2.le) k (q1.le g2.le)⟩, ⟨by rw [upd_ne nb]; exact c2.1, by rw [upd_ne nb]; exact c2.2.1, c2.2.2⟩, q2.le g2.le⟩
theorem stb_cel1 {i k : Nat} {q a b : Addr} {ds es : List PyData} (hA : b ∈ A) (e : ρ[i]? = some (.cel q a b ds es)) (so : Sole ρ i) (h : EvD T K te ρ d) (hk : EvD T K tb ρ (.int (k : Int))) (hl : k < es.length) : StB T K A (tAsg te (gSub (tOp (rIx K) (tVar i) (tC (.int 1))) tb rSetL)) ρ (ρ.set i (.cel q a b ds (es.set k d))) := fun G0 H0 σ G H D tbs g x p => by
  refine h H0 G H σ g.sub (g.tabs tbs) x _ fun v G1 H1 g1 qv => ?_
  have x1 := x.gw g1
  obtain ⟨e1, _, ne, b0, va, vb, ⟨b1, q1⟩, b2, q2⟩ := x1.cel e
  refine (at_ref e1 b0.1).2 (hk H0 G1 H1 σ g1.sub (g1.tabs (g.tabs tbs)) x1 _ fun w G2 H2 g2 qw => ?_)
  cases qw
  have x2 := x1.gw g2
  have c1 := b1.gw g2
  have c2 := b2.gw g2
  have gg := (g.trans g1).trans g2
  refine ⟨b, vb, (k : Int), k, rfl, rfl, c2.1, ixN_nat (by rw [q2.length]; exact hl), ?_⟩
  refine p σ G2 _ _ (.upd hA) (tabs_upd tbs c2.2.1) (gg.base c2.2.1 c2.2.2) (g1.le.trans g2.le) ?_
  refine x2.base e rfl rfl so c2.2.1 c2.1 fun o ho => ?_
  have : o = some (.ref q) := ho.1
  subst this
  have c0 := b0.gw g2
  have nq : q ≠ b := ne.2.1
  have na : a ≠ b := ne.2.2
  exact ⟨rfl, ne, ⟨by rw [upd_ne nq]; exact c0.1, by rw [upd_ne nq]; exact c0.2.1, c0.2.2⟩, va, _, ⟨⟨by rw [upd_ne na]; exact c1.1, by rw [upd_ne na]; exact c1.2.1, c1.2.2⟩, q1.le g2.le⟩, ⟨upd_same, upd_same, c2.2.2⟩, DqAll.set (qv.le g2.le) k (q2.le g2.le)⟩
theorem stb_weakN (h : StB T K A t ρ ρ1) (hl : ρ2.length = ρ1.length) (hw : ∀ (i : Nat) (s : Sl), ρ2[i]? = some s → s = .any ∨ ρ1[i]? = some s) : StB T K A t ρ ρ2 := fun G0 H0 σ G H D tb g x p =>
  h G0 H0 σ G H D tb g x fun σ1 G1 H1 H2 o1 t1 g1 l1 x1 => p σ1 G1 H1 H2 o1 t1 g1 l1 (x1.weak hl hw)
/-- another base, where nothing is one's own -/
theorem En.rebase {H0 H1 G H : Hp} {σ : L2.St} (x : En K H0 G H σ ρ) (h : K37.noOwn ρ = true) : En K H1 G H σ ρ := by
  refine ⟨x.len, fun i s e => ?_, x.sep⟩
  obtain ⟨o, e1, q⟩ := x.ok i s e
  refine ⟨o, e1, ?_⟩
  rcases noOwn_get h e with rfl | ⟨d, rfl⟩
  · trivial
  · exact q
theorem Gw.less {G0 H0 B G H : Hp} (g : Gw T G0 B G H) (l : Le H0 B) (t : LamX.Tabs T B) : Gw T G0 H0 G H :=
  ⟨fun a o e => g.ex a o (l a o e), g.le, g.sub, fun a o e => by
    rcases g.fresh a o e with h | h
    · exact .inl h
    · exact .inr (l.none_of h), fun _ => g.tabs t⟩
theorem Gw.more {G0 H0 G H : Hp} (g : Gw T G0 H0 G H) {p : Addr} {o : HO} (h : H p = some o) (gp : G p = none) (t : LamX.Tabs T H) : Gw T G0 (upd H0 p o) G H :=
  ⟨fun a u e => by
    by_cases z : a = p
    · subst z; rw [upd_same] at e; cases e; exact .inl h
    · rw [upd_ne z] at e; exact g.ex a u e, g.le, g.sub, fun a u e => by
    rcases g.fresh a u e with h | h
    · exact .inl h
    · exact .inr (by rw [upd_ne (ne_of_none e gp)]; exact h), fun _ => t⟩
theorem seq_asg {g : TG} {D : Ends} {σ : L2.St} {H : Hp} (h : te σ H fun x H1 => g x σ H1 (u D)) : tSeq (tAsg te g) u D σ H := h
theorem seq_go {D : Ends} {σ : L2.St} {H : Hp} (h : t { D with nx := u D } σ H) : tSeq t u D σ H := h
/-- [[..], [..]], made anew: from now on it stands in the base -/
theorem cel_new {G0 H0 G H : Hp} {σ : L2.St} {t1 t2 t3 t4 : TE} {d1 d2 d3 d4 : PyData} {Q : VK} (tb : LamX.Tabs T H0) (g : Gw T G0 H0 G H) (x : En K H0 G H σ ρ) (no : noOwn ρ = true) (h1 : EvD T K t1 ρ d1) (h2 : EvD T K t2 ρ d2) (h3 : EvD T K t3 ρ d3) (h4 : EvD T K t4 ρ d4)
    (k : ∀ q a b G1 H1 B, Le H0 B → (∀ y, y ≠ q → y ≠ a → y ≠ b → B y = H0 y) → H0 q = none → H0 a = none → H0 b = none → LamX.Tabs T B → Gw T G0 B G1 H1 → SlOk K B G1 H1 (some (.ref q)) (.cel q a b [d1, d2] [d3, d4]) → En K B G1 H1 σ ρ → Q (.ref q) H1) :
    tLst (tCons (tLst (tCons t1 (tCons t2 tNil))) (tCons (tLst (tCons t3 (tCons t4 tNil))) tNil)) σ H Q := by
  have e1 : EvF T K (tLst (tCons t1 (tCons t2 tNil))) ρ [d1, d2] := evf_lst (evds_cons h1 (evds_cons h2 evds_nil)) (Nat.le_of_ble_eq_true rfl)
  have e2 : EvF T K (tLst (tCons t3 (tCons t4 tNil))) ρ [d3, d4] := evf_lst (evds_cons h3 (evds_cons h4 evds_nil)) (Nat.le_of_ble_eq_true rfl)
  suffices hh : tLst (tCons t1 (tCons t2 tNil)) σ H (fun v1 H1 => tLst (tCons t3 (tCons t4 tNil)) σ H1 fun v2 H2 => 2 ≤ sizeLine ∧ ∀ p, H2 p = none → Q (.ref p) (upd H2 p (.lst [v1, v2]))) from hh
  refine e1 H0 G H σ g.sub (g.tabs tb) x _ fun a va Ga Ha ga ha0 hga hla qa => ?_
  have gA := g.trans ga
  refine e2 H0 Ga Ha σ ga.sub (gA.tabs tb) (x.gw ga) _ fun b vb Gb Hb gb hb0 hgb hlb qb => ?_
  have gB := gA.trans gb
  refine ⟨by decide, fun q hq => ?_⟩
  have hab : a ≠ b := fun z => by subst z; rw [hla] at hb0; cases hb0
  have la2 := gb.keep hla fun z => z
  have ga2 := gb.out hla hga
  have nqa : q ≠ a := fun z => by subst z; rw [la2] at hq; cases hq
  have nqb : q ≠ b := fun z => by subst z; rw [hlb] at hq; cases hq
  have gq : Gb q = none := gB.sub.le.none_of hq
  have gF : Gw T G0 H0 Gb (upd Hb q (.lst [.ref a, .ref b])) := gB.trans (.newH gB.sub hq)
  have tF := gF.tabs tb
  have Ha' : (upd Hb q (.lst [.ref a, .ref b])) a = some (.lst va) := by rw [upd_ne (fun z => nqa z.symm)]; exact la2
  have Hb' : (upd Hb q (.lst [.ref a, .ref b])) b = some (.lst vb) := by rw [upd_ne (fun z => nqb z.symm)]; exact hlb
  have Hq' : (upd Hb q (.lst [.ref a, .ref b])) q = some (.lst [.ref a, .ref b]) := upd_same
  have a0 := g.ex.none_of ha0
  have b0 := gA.ex.none_of hb0
  have q0 := gB.ex.none_of hq
  have gM := ((gF.more Ha' ga2 tF).more Hb' hgb tF).more Hq' gq tF
  have c1 : (upd H0 a (.lst va)) b = none := by rw [upd_ne (fun z => hab z.symm)]; exact b0
  have c2 : (upd (upd H0 a (.lst va)) b (.lst vb)) q = none := by rw [upd_ne nqb, upd_ne nqa]; exact q0
  have le3 : Le H0 (upd (upd (upd H0 a (.lst va)) b (.lst vb)) q (.lst [.ref a, .ref b])) := ((Le.upd a0).trans (Le.upd c1)).trans (Le.upd c2)
  have Ba : (upd (upd (upd H0 a (.lst va)) b (.lst vb)) q (.lst [.ref a, .ref b])) a = some (.lst va) := by rw [upd_ne (fun z => nqa z.symm), upd_ne hab, upd_same]
  have Bb : (upd (upd (upd H0 a (.lst va)) b (.lst vb)) q (.lst [.ref a, .ref b])) b = some (.lst vb) := by rw [upd_ne (fun z => nqb z.symm), upd_same]
  have Bq' : (upd (upd (upd H0 a (.lst va)) b (.lst vb)) q (.lst [.ref a, .ref b])) q = some (.lst [.ref a, .ref b]) := upd_same
  refine k q a b Gb _ _ le3 (fun y y1 y2 y3 => by rw [upd_ne y1, upd_ne y3, upd_ne y2]) q0 a0 b0 (tabs_le le3 tb) gM ⟨rfl, ⟨nqa, nqb, hab⟩, ⟨Hq', Bq', gq⟩, va, vb, ⟨⟨Ha', Ba, ga2⟩, qa.le gb.le⟩, ⟨Hb', Bb, hgb⟩, qb⟩ ?_
  exact (((x.gw ga).gw gb).gw (.newH (T := T) gB.sub hq)).rebase no
end
end K37
namespace K37
open PySem PySem.Spec L2
local macro_rules | `(tactic| walk_at "sz") => `(tactic| first | assumption | decide | omega)
local macro_rules | `(tactic| walk_at "call") => `(tactic| fail "no call")
local macro_rules | `(tactic| walk_at "cb") => `(tactic| first
  | with_reducible exact gcd_D | with_reducible exact len_T | with_reducible exact len_L | with_reducible exact tuple_L | with_reducible exact tuple_T | with_reducible exact max_D | with_reducible exact min_D | with_reducible exact abs_D
  | with_reducible exact int_D | with_reducible exact int_B)
local macro_rules | `(tactic| walk_at "op") => `(tactic| first
  | with_reducible exact minus_int | with_reducible exact plus_int | ((with_reducible apply times_int); walk_at "sz") | ((with_reducible apply ix_tupD); exact rfl) | ((with_reducible apply ix_lstD); exact rfl)
  | with_reducible exact lt_intD | with_reducible exact le_intD | with_reducible exact gt_intD | with_reducible exact ge_intD
  | ((with_reducible apply eq_D) <;> first | exact rfl | exact fr_shaped _ | assumption) | ((with_reducible apply ne_D) <;> first | exact rfl | exact fr_shaped _ | assumption)
  | ((with_reducible apply fdiv_int); walk_at "sz") | ((with_reducible apply fmod_int); walk_at "sz")
  | ((with_reducible apply plus_tup); walk_at "sz") | ((with_reducible apply plus_lst); walk_at "sz"))
local macro_rules | `(tactic| walk_at "evs") => `(tactic| first
  | with_reducible exact evds_nil
  | ((with_reducible apply evds_cons); (· walk_at "ev"); (· walk_at "evs")))
local macro_rules | `(tactic| walk_at "ev") => `(tactic| first
  | assumption
  | ((with_reducible apply evd_var); exact rfl)
  | with_reducible exact evd_int | with_reducible exact evd_cst | with_reducible exact evd_non | with_reducible exact evd_bl
  | ((with_reducible apply evd_op); (· walk_at "ev"); (· walk_at "ev"); (· walk_at "op"))
  | ((with_reducible apply evd_un); (· walk_at "ev"); (· with_reducible exact neg_intD))
  | ((with_reducible apply evd_call); (· walk_at "evs"); (· walk_at "call"))
  | ((with_reducible apply evd_cb); (· walk_at "evs"); (· walk_at "cb"))
  | ((with_reducible apply evd_tup); (· walk_at "evs"); (· exact Nat.le_of_ble_eq_true rfl))
  | ((with_reducible apply evd_isN); walk_at "ev") | ((with_reducible apply evd_notN); walk_at "ev")
  | ((with_reducible apply evd_not); walk_at "ev"))
local macro_rules | `(tactic| walk_at "te") => `(tactic| first
  | ((with_reducible apply ted_test); walk_at "ev") | ((with_reducible apply ted_B); walk_at "ev") | ((with_reducible apply ted_not); walk_at "te"))

/-- the law's own table, row by row -/
def shF (t : Tbl) (p : Int × Rat) : Tbl := shE ((p.1 + 1 : Int) : Rat) p.2 t
def shT (r : Row) : Tbl := r.foldl shF IT
def tabD (t : Tbl) : PyData := shD (t.1.1.map fr) (t.1.2.map fr) (t.2.1.map fr) (t.2.2.map fr)
def shRaw : Row → PyData
  | [] => shD [.int 1] [] [] [.int 1]
  | p :: r => tabD (shT (p :: r))
structure SheetOk (r : Row) : Prop where
  len : r.length ≤ 90
  ps : ∀ p ∈ r, (0 ≤ p.1 ∧ p.1 < 4) ∧ Sm 30 p.2
  runs : ∀ i, i ≤ r.length → SmT 100 900 (shT (r.take i))
def fSheet (ds : List PyData) (d : PyData) : Prop := ∃ (r : Row) (m : Int), ds = [rw_ r, .int m] ∧ SheetOk r ∧ d = shRaw r
theorem sm_map {n a b : Nat} {p : Po} {x : Rat} (h : SmP n a p) (hx : Sm b x) : SmP n (a + b) (p.map (· * x)) := by
  refine ⟨by rw [List.length_map]; exact h.1, fun c hc => ?_⟩
  obtain ⟨y, hy, rfl⟩ := List.mem_map.mp hc
  exact (h.2 y hy).mul hx
theorem sm_cons0 {n a : Nat} {p : Po} (h : SmP n a p) (ha : 0 < a) : SmP (n + 1) a (0 :: p) := by
  refine ⟨by rw [List.length_cons]; exact Nat.succ_le_succ h.1, fun c hc => ?_⟩
  rcases List.mem_cons.mp hc with z | z
  · rw [z]; exact sm_zero a ha
  · exact h.2 c z
theorem sm_ptim {n a b : Nat} {p : Po} {x : Rat} (h : SmP n a p) (hx : Sm b x) (ha : 0 < a) : SmP n (a + b + 1 + 1) (ptim p x) := sm_padd (sm_map h hx) (sm_nilp (a := 1)) (by omega) (by decide)
theorem sm_plat {n a b : Nat} {p : Po} {x : Rat} (h : SmP n a p) (hx : Sm b x) (ha : 0 < a) : SmP (n + 1) (a + b + 1 + 1) (plat p x) := sm_padd (sm_cons0 (sm_map h hx) (by omega)) (sm_nilp (a := 1)) (by omega) (by decide)
theorem any_weak_sh (u v c d e f g h : Sl) : ∀ (i : Nat) (s : Sl), [u, v, c, Sl.any, .any, .any, .any, .any][i]? = some s → s = .any ∨ [u, v, c, d, e, f, g, h][i]? = some s := fun i s hs => by
  match i, hs with
  | 0, hs => exact .inr hs
  | 1, hs => exact .inr hs
  | 2, hs => exact .inr hs
  | 3, hs => cases hs; exact .inl rfl
  | 4, hs => cases hs; exact .inl rfl
  | 5, hs => cases hs; exact .inl rfl
  | 6, hs => cases hs; exact .inl rfl
  | 7, hs => cases hs; exact .inl rfl
section
variable {P : Program} {w : World} {K : PySem.W.Frag} {mg : Str → Option Value} {base : Heap} {T : Tb}
theorem sheet_turn {R M : PyData} {q a b : Addr} {t : Tbl} {b1 b2 b3 b4 : List PyData} {p : Int × Rat} (h1 : BitL t.1.1 b1) (h2 : BitL t.1.2 b2) (h3 : BitL t.2.1 b3) (h4 : BitL t.2.2 b4) (st : SmT 100 900 t) (hp : 0 ≤ p.1 ∧ p.1 < 4) (hx : Sm 30 p.2) :
    StB T K [a, b] (tSeq (tAsg (tOp (rPlus K) (tVar 3) (tC (V.int 1))) (gName 5))
            (tSeq (tAsg (tLst tNil) (gName 6))
              (tSeq
                (tFor (iRng1 (tCons (tC (V.int 2)) tNil)) (gName 7)
                  (tDrop
                    (tBM K "list" rAppend (tVar 6)
                      (tCons
                        (tCall (spF T K fPadd) [] E0
                          (tCons
                            (tCall (spF T K fPtim) [] E0
                              (tCons (tOp (rIx K) (tOp (rIx K) (tVar 2) (tC (V.int 0))) (tVar 7))
                                (tCons
                                  (tTup
                                    (tCons (tOp (rI0 fun i j => V.int (i - j)) (tC (V.int 0)) (tVar 5))
                                      (tCons (tC (V.int 1)) tNil)))
                                  tNil)))
                            (tCons (tOp (rIx K) (tOp (rIx K) (tVar 2) (tC (V.int 1))) (tVar 7)) tNil)))
                        tNil))))
                (tFor (iRng1 (tCons (tC (V.int 2)) tNil)) (gName 7)
                  (tSeq
                    (tAsg
                      (tCall (spF T K fPadd) [] E0
                        (tCons (tOp (rIx K) (tOp (rIx K) (tVar 2) (tC (V.int 0))) (tVar 7))
                          (tCons
                            (tCall (spF T K fPlat) [] E0 (tCons (tOp (rIx K) (tVar 6) (tVar 7)) (tCons (tVar 4) tNil)))
                            tNil)))
                      (gSub (tOp (rIx K) (tVar 2) (tC (V.int 0))) (tVar 7) rSetL))
                    (tAsg
                      (tCall (spF T K fPadd) [] E0
                        (tCons (tOp (rIx K) (tOp (rIx K) (tVar 2) (tC (V.int 1))) (tVar 7))
                          (tCons
                            (tCall (spF T K fPlat) [] E0 (tCons (tOp (rIx K) (tVar 6) (tVar 7)) (tCons (tCall (spF T K fTimes) [] E0 (tCons (tVar 4) (tCons (tTup (tCons (tVar 5) (tCons (tC (V.int 1)) tNil))) tNil))) tNil)))
                            tNil)))
                      (gSub (tOp (rIx K) (tVar 2) (tC (V.int 1))) (tVar 7) rSetL)))))))
      [.dat R, .dat M, .cel q a b [.list b1, .list b2] [.list b3, .list b4], .dat (.int p.1), .dat (fr p.2), .any, .any, .any]
      [.dat R, .dat M, .cel q a b [plL (shF t p).1.1, plL (shF t p).1.2] [plL (shF t p).2.1, plL (shF t p).2.2], .any, .any, .any, .any, .any] := by
  obtain ⟨⟨s1, s2⟩, s3, s4⟩ := st
  have ha : Sm 3 ((p.1 + 1 : Int) : Rat) := by
    have h8 : (p.1 + 1).natAbs ≤ 4 := by omega
    exact ((Bq.int (p.1 + 1)).mono h8).sm (by decide) (by decide) (by decide)
  have en : ((0 - (p.1 + 1) : Int) : Rat) = -((p.1 + 1 : Int) : Rat) := by rw [Int.zero_sub, Rat.intCast_neg]
  have hna : Sm 3 ((0 - (p.1 + 1) : Int) : Rat) := by rw [en]; exact ha.neg
  have m0 := sm_ptim s1 hna (by decide)
  have m1 := sm_ptim s2 hna (by decide)
  have l0 := sm_padd m0 s3 (by decide) (by decide)
  have l1 := sm_padd m1 s4 (by decide) (by decide)
  have hxa : Sm 33 (p.2 * ((p.1 + 1 : Int) : Rat)) := hx.mul ha
  have x4 := hx.mono (show 30 ≤ 4000 by decide)
  have e11 : padd t.1.1 (plat (padd (ptim t.1.1 ((0 - (p.1 + 1) : Int) : Rat)) t.2.1) p.2) = (shF t p).1.1 := by rw [en]; rfl
  have e12 : padd t.1.2 (plat (padd (ptim t.1.2 ((0 - (p.1 + 1) : Int) : Rat)) t.2.2) p.2) = (shF t p).1.2 := by rw [en]; rfl
  have e21 : padd t.2.1 (plat (padd (ptim t.1.1 ((0 - (p.1 + 1) : Int) : Rat)) t.2.1) (p.2 * ((p.1 + 1 : Int) : Rat))) = (shF t p).2.1 := by rw [en]; rfl
  have e22 : padd t.2.2 (plat (padd (ptim t.1.2 ((0 - (p.1 + 1) : Int) : Rat)) t.2.2) (p.2 * ((p.1 + 1 : Int) : Rat))) = (shF t p).2.2 := by rw [en]; rfl
  generalize hL0 : padd (ptim t.1.1 ((0 - (p.1 + 1) : Int) : Rat)) t.2.1 = L0 at *
  generalize hL1 : padd (ptim t.1.2 ((0 - (p.1 + 1) : Int) : Rat)) t.2.2 = L1 at *
  generalize (shF t p).1.1 = n11 at *
  generalize (shF t p).1.2 = n12 at *
  generalize (shF t p).2.1 = n21 at *
  generalize (shF t p).2.2 = n22 at *
  let X0 : List PyData := [.list b1, .list b2]
  let Y0 : List PyData := [.list b3, .list b4]
  let ρ : List PyData → List PyData → Sl → Sl → Sl → List Sl := fun X Y u v z => [.dat R, .dat M, .cel q a b X Y, .dat (.int p.1), .dat (fr p.2), u, v, z]
  refine stb_seq (ρ1 := ρ X0 Y0 (.dat (.int (p.1 + 1))) .any .any) (std_asg (evd_op (evd_var rfl) evd_int plus_int)).b ?_
  refine stb_seq (ρ1 := ρ X0 Y0 (.dat (.int (p.1 + 1))) (.own []) .any) (std_asgF (i := 6) (ds := []) (evf_lst evds_nil (Nat.zero_le _))).b ?_
  have own : ∀ (X Y : List PyData) (L : Sl) (j : Int), EvD T K (tTup (tCons (tOp (rI0 fun i j => V.int (i - j)) (tC (V.int 0)) (tVar 5)) (tCons (tC (V.int 1)) tNil))) (ρ X Y (.dat (.int (p.1 + 1))) L (.dat (.int j))) (fr ((0 - (p.1 + 1) : Int) : Rat)) := fun X Y L j => by
    rw [fr_int]
    exact evd_tup (evds_cons (evd_op evd_int (evd_var rfl) minus_int) (evds_cons evd_int evds_nil)) (Nat.le_of_ble_eq_true rfl)
  have mulE : ∀ (X Y : List PyData) (L : Sl) (j : Int), EvD T K (tCall (spF T K fTimes) [] E0 (tCons (tVar 4) (tCons (tTup (tCons (tVar 5) (tCons (tC (V.int 1)) tNil))) tNil))) (ρ X Y (.dat (.int (p.1 + 1))) L (.dat (.int j))) (fr (p.2 * ((p.1 + 1 : Int) : Rat))) := fun X Y L j => by
    refine evd_call (evds_cons (evd_var rfl) (evds_cons (a := fr ((p.1 + 1 : Int) : Rat)) ?_ evds_nil)) (c_times x4 (ha.mono (by decide)))
    rw [fr_int]
    exact evd_tup (evds_cons (evd_var rfl) (evds_cons evd_int evds_nil)) (Nat.le_of_ble_eq_true rfl)
  refine stb_seq (ρ1 := ρ X0 Y0 (.dat (.int (p.1 + 1))) (.own [plL L0, plL L1]) .any) ?_ ?_
  · refine StD.b ?_
    let ρs : Nat → List Sl := fun j => ρ X0 Y0 (.dat (.int (p.1 + 1))) (.own ([plL L0, plL L1].take j)) .any
    refine std_for (js := [7]) ρs (itd_rng1 (n := 2) (evds_cons evd_int evds_nil) (by decide) (by decide)) fun j d hd => ?_
    have weak : ∀ (u : Sl) (z : Sl), ∀ (i : Nat) (s : Sl), (ρ X0 Y0 (.dat (.int (p.1 + 1))) u .any)[i]? = some s → s = .any ∨ (ρ X0 Y0 (.dat (.int (p.1 + 1))) u z)[i]? = some s := fun u z i s hs => by
      match i, hs with
      | 0, hs => exact .inr hs
      | 1, hs => exact .inr hs
      | 2, hs => exact .inr hs
      | 3, hs => exact .inr hs
      | 4, hs => exact .inr hs
      | 5, hs => exact .inr hs
      | 6, hs => exact .inr hs
      | 7, hs => cases hs; exact .inl rfl
    match j, hd with
    | 0, hd =>
      cases hd
      refine ⟨_, tgd_name, ?_⟩
      refine std_weakN (ρ1 := ρ X0 Y0 (.dat (.int (p.1 + 1))) (.own [plL L0]) (.dat (.int ((0 : Nat) : Int)))) ?_ rfl (weak _ _)
      rw [← hL0]
      exact std_app (ds := []) rfl (evd_call (evds_cons (evd_call (evds_cons (evd_ixCel0 (i := 2) rfl (evd_var rfl) rfl) (evds_cons (own _ _ _ _) evds_nil)) (c_ptim h1 s1.l (hna.mono (by decide)) (sm_map s1 hna).l)) (evds_cons (evd_ixCel1 (i := 2) rfl (evd_var rfl) rfl) evds_nil)) (c_padd (bit_fr _) h3 m0.l s3.l)) (by decide)
    | 1, hd =>
      cases hd
      refine ⟨_, tgd_name, ?_⟩
      refine std_weakN (ρ1 := ρ X0 Y0 (.dat (.int (p.1 + 1))) (.own [plL L0, plL L1]) (.dat (.int ((1 : Nat) : Int)))) ?_ rfl (weak _ _)
      rw [← hL1]
      exact std_app (ds := [plL L0]) rfl (evd_call (evds_cons (evd_call (evds_cons (evd_ixCel0 (i := 2) rfl (evd_var rfl) rfl) (evds_cons (own _ _ _ _) evds_nil)) (c_ptim h2 s2.l (hna.mono (by decide)) (sm_map s2 hna).l)) (evds_cons (evd_ixCel1 (i := 2) rfl (evd_var rfl) rfl) evds_nil)) (c_padd (bit_fr _) h4 m1.l s4.l)) (Nat.le_of_ble_eq_true rfl)
    | _ + 2, hd => cases hd
  · refine stb_weakN (ρ1 := ρ [plL n11, plL n12] [plL n21, plL n22] (.dat (.int (p.1 + 1))) (.own [plL L0, plL L1]) .any) ?_ rfl (any_weak_sh _ _ _ _ _ _ _ _)
    let ρs : Nat → List Sl := fun j => match j with
      | 0 => ρ X0 Y0 (.dat (.int (p.1 + 1))) (.own [plL L0, plL L1]) .any
      | 1 => ρ [plL n11, .list b2] [plL n21, .list b4] (.dat (.int (p.1 + 1))) (.own [plL L0, plL L1]) .any
      | _ => ρ [plL n11, plL n12] [plL n21, plL n22] (.dat (.int (p.1 + 1))) (.own [plL L0, plL L1]) .any
    have sole : ∀ (X Y : List PyData) (z : Sl), bare z = true → Sole (ρ X Y (.dat (.int (p.1 + 1))) (.own [plL L0, plL L1]) z) 2 := fun X Y z hz j t hj e => by
      match j, e with
      | 0, e => cases e; rfl
      | 1, e => cases e; rfl
      | 2, e => exact absurd rfl hj
      | 3, e => cases e; rfl
      | 4, e => cases e; rfl
      | 5, e => cases e; rfl
      | 6, e => cases e; rfl
      | 7, e => cases e; exact hz
    have weak : ∀ (X Y : List PyData) (z : Sl), ∀ (i : Nat) (s : Sl), (ρ X Y (.dat (.int (p.1 + 1))) (.own [plL L0, plL L1]) .any)[i]? = some s → s = .any ∨ (ρ X Y (.dat (.int (p.1 + 1))) (.own [plL L0, plL L1]) z)[i]? = some s := fun X Y z i s hs => by
      match i, hs with
      | 0, hs => exact .inr hs
      | 1, hs => exact .inr hs
      | 2, hs => exact .inr hs
      | 3, hs => exact .inr hs
      | 4, hs => exact .inr hs
      | 5, hs => exact .inr hs
      | 6, hs => exact .inr hs
      | 7, hs => cases hs; exact .inl rfl
    have p0 := sm_plat l0 hx (by decide)
    have p1 := sm_plat l1 hx (by decide)
    have p2 := sm_plat l0 hxa (by decide)
    have p3 := sm_plat l1 hxa (by decide)
    refine stb_for (js := [7]) ρs (itd_rng1 (n := 2) (evds_cons evd_int evds_nil) (by decide) (by decide)) fun j d hd => ?_
    match j, hd with
    | 0, hd =>
      cases hd
      refine ⟨_, tgd_name, ?_⟩
      refine stb_weakN (ρ1 := ρ [plL n11, .list b2] [plL n21, .list b4] (.dat (.int (p.1 + 1))) (.own [plL L0, plL L1]) (.dat (.int ((0 : Nat) : Int)))) ?_ rfl (weak _ _ _)
      refine stb_seq (ρ1 := ρ [plL n11, .list b2] Y0 (.dat (.int (p.1 + 1))) (.own [plL L0, plL L1]) (.dat (.int ((0 : Nat) : Int)))) ?_ ?_
      · rw [← e11]
        exact stb_cel0 (i := 2) (k := 0) (q := q) (a := a) (b := b) (ds := X0) (es := Y0) (.head _) rfl (sole X0 Y0 (.dat (.int ((0 : Nat) : Int))) rfl) (evd_call (evds_cons (evd_ixCel0 (i := 2) rfl (evd_var rfl) rfl) (evds_cons (evd_call (evds_cons (evd_ixOwn (i := 6) rfl (evd_var rfl) rfl) (evds_cons (evd_var rfl) evds_nil)) (c_plat (bit_fr _) l0.l x4 (sm_cons0 (sm_map l0 hx) (by decide)).l)) evds_nil)) (c_padd h1 (bit_fr _) s1.l p0.l)) (evd_var rfl) (Nat.le_of_ble_eq_true rfl)
      · rw [← e21]
        exact stb_cel1 (i := 2) (k := 0) (q := q) (a := a) (b := b) (ds := [plL n11, .list b2]) (es := Y0) (.tail _ (.head _)) rfl (sole [plL n11, .list b2] Y0 (.dat (.int ((0 : Nat) : Int))) rfl) (evd_call (evds_cons (evd_ixCel1 (i := 2) rfl (evd_var rfl) rfl) (evds_cons (evd_call (evds_cons (evd_ixOwn (i := 6) rfl (evd_var rfl) rfl) (evds_cons (mulE [plL n11, .list b2] Y0 (.own [plL L0, plL L1]) ((0 : Nat) : Int)) evds_nil)) (c_plat (bit_fr _) l0.l (hxa.mono (by decide)) (sm_cons0 (sm_map l0 hxa) (by decide)).l)) evds_nil)) (c_padd h3 (bit_fr _) s3.l p2.l)) (evd_var rfl) (Nat.le_of_ble_eq_true rfl)
    | 1, hd =>
      cases hd
      refine ⟨_, tgd_name, ?_⟩
      refine stb_weakN (ρ1 := ρ [plL n11, plL n12] [plL n21, plL n22] (.dat (.int (p.1 + 1))) (.own [plL L0, plL L1]) (.dat (.int ((1 : Nat) : Int)))) ?_ rfl (weak _ _ _)
      refine stb_seq (ρ1 := ρ [plL n11, plL n12] [plL n21, .list b4] (.dat (.int (p.1 + 1))) (.own [plL L0, plL L1]) (.dat (.int ((1 : Nat) : Int)))) ?_ ?_
      · rw [← e12]
        exact stb_cel0 (i := 2) (k := 1) (q := q) (a := a) (b := b) (ds := [plL n11, .list b2]) (es := [plL n21, .list b4]) (.head _) rfl (sole [plL n11, .list b2] [plL n21, .list b4] (.dat (.int ((1 : Nat) : Int))) rfl) (evd_call (evds_cons (evd_ixCel0 (i := 2) rfl (evd_var rfl) rfl) (evds_cons (evd_call (evds_cons (evd_ixOwn (i := 6) rfl (evd_var rfl) rfl) (evds_cons (evd_var rfl) evds_nil)) (c_plat (bit_fr _) l1.l x4 (sm_cons0 (sm_map l1 hx) (by decide)).l)) evds_nil)) (c_padd h2 (bit_fr _) s2.l p1.l)) (evd_var rfl) (Nat.le_of_ble_eq_true rfl)
      · rw [← e22]
        exact stb_cel1 (i := 2) (k := 1) (q := q) (a := a) (b := b) (ds := [plL n11, plL n12]) (es := [plL n21, .list b4]) (.tail _ (.head _)) rfl (sole [plL n11, plL n12] [plL n21, .list b4] (.dat (.int ((1 : Nat) : Int))) rfl) (evd_call (evds_cons (evd_ixCel1 (i := 2) rfl (evd_var rfl) rfl) (evds_cons (evd_call (evds_cons (evd_ixOwn (i := 6) rfl (evd_var rfl) rfl) (evds_cons (mulE [plL n11, plL n12] [plL n21, .list b4] (.own [plL L0, plL L1]) ((1 : Nat) : Int)) evds_nil)) (c_plat (bit_fr _) l1.l (hxa.mono (by decide)) (sm_cons0 (sm_map l1 hxa) (by decide)).l)) evds_nil)) (c_padd h4 (bit_fr _) s4.l p3.l)) (evd_var rfl) (Nat.le_of_ble_eq_true rfl)
    | _ + 2, hd => cases hd
def shB (r : Row) (i : Nat) (f : Tbl → Po) (z : List PyData) : List PyData := if i = 0 then z else (f (shT (r.take i))).map fr
theorem shB_bit (r : Row) (i : Nat) (f : Tbl → Po) {z : List PyData} (h : BitL (f IT) z) : BitL (f (shT (r.take i))) (shB r i f z) := by
  unfold shB
  by_cases e : i = 0
  · subst e; rw [if_pos rfl]; exact h
  · rw [if_neg e]; exact bit_fr _
theorem shT_snoc {r : Row} {i : Nat} {p : Int × Rat} (h : r[i]? = some p) : shT (r.take (i + 1)) = shF (shT (r.take i)) p := by
  rw [List.take_add_one, h]
  unfold shT
  rw [List.foldl_append]; rfl
theorem shRaw_eq (r : Row) : shRaw r = shD (shB r r.length (fun t => t.1.1) [.int 1]) (shB r r.length (fun t => t.1.2) []) (shB r r.length (fun t => t.2.1) []) (shB r r.length (fun t => t.2.2) [.int 1]) := by
  cases r with
  | nil => rfl
  | cons p r =>
    unfold shB
    rw [if_neg (by simp), if_neg (by simp), if_neg (by simp), if_neg (by simp), List.take_length]; rfl
theorem sc__law_sheet_of : FnScope ["_law_row_so", "_law_many", "_law_found", "_law_part", "_law_much_here", "_law_own", "_law_lines_so", "_law_line"] ["_law_row_so", "_law_many"] (defScope (top 84)) := ⟨rfl, rfl, rfl, by decide +kernel, rfl, by decide +kernel, by decide +kernel⟩
theorem d_law_sheet_of (C : CT P w K mg base T) : Df P w K mg base "_law_sheet_of" 5 ["_law_row_so", "_law_many"] (spF T K fSheet) := by
  refine df_of C (i := 66) (x := "_law_sheet_of") (N := ["_law_row_so", "_law_many", "_law_found", "_law_part", "_law_much_here", "_law_own", "_law_lines_so", "_law_line"]) (n := 6) rfl sc__law_sheet_of (fun _ _ _ _ _ _ us hl => match us, hl with | [_, _], _ => rfl) ?_ rfl fun cdv A outer s H E fa hr => ⟨_, (pss_cons (ps_set (i := 2) sc__law_sheet_of.nd rfl (by first | exact Or.inl rfl | exact Or.inr rfl) (pe_lst (pa_cons (pe_lst (pa_cons (pe_lst (pa_cons pe_int pa_nil)) (pa_cons (pe_lst pa_nil) pa_nil))) (pa_cons (pe_lst (pa_cons (pe_lst pa_nil) (pa_cons (pe_lst (pa_cons pe_int pa_nil)) pa_nil))) pa_nil))))
  (pss_cons (ps_for PassesOwn.never rfl (pi_seqK K rfl (pv 0)) (pg_tupK K rfl (n := 2) rfl (pgs_cons (pg_name (i := 3) sc__law_sheet_of.nd rfl (by first | exact Or.inl rfl | exact Or.inr rfl)) (pgs_cons (pg_name (i := 4) sc__law_sheet_of.nd rfl (by first | exact Or.inl rfl | exact Or.inr rfl)) pgs_nil))) (pss_cons (ps_set (i := 5) sc__law_sheet_of.nd rfl (by first | exact Or.inl rfl | exact Or.inr rfl) (pe_op (op_plusK K rfl) (pv 3) pe_int))
  (pss_cons (ps_set (i := 6) sc__law_sheet_of.nd rfl (by first | exact Or.inl rfl | exact Or.inr rfl) (pe_lst pa_nil))
  (pss_cons (ps_for PassesOwn.never rfl (pi_range1 (by rfl) (C.free 11 _ rfl) (pa_cons pe_int pa_nil)) (pg_name (i := 7) sc__law_sheet_of.nd rfl (by first | exact Or.inl rfl | exact Or.inr rfl)) (pss_one (ps_expr (pe_bmK K rfl PySem.F.plainAttrs_list PySem.F.slot_list_append PySem.F.type_list_append mt_append (pv 6) (pa_cons (pe_dfK (d_law_poly_add C) rfl rfl rfl rfl rfl hr (by rfl) (pa_cons (pe_dfK (d_law_poly_times C) rfl rfl rfl rfl rfl hr (by rfl) (pa_cons (pe_ix (ix_seqK K rfl) (pe_ix (ix_seqK K rfl) (pv 2) pe_int (fun _ _ => rfl)) (pv 7) (fun _ _ => rfl)) (pa_cons (pe_tup (pa_cons (pe_op op_sub pe_int (pv 5)) (pa_cons pe_int pa_nil))) pa_nil))) (pa_cons (pe_ix (ix_seqK K rfl) (pe_ix (ix_seqK K rfl) (pv 2) pe_int (fun _ _ => rfl)) (pv 7) (fun _ _ => rfl)) pa_nil))) pa_nil)))))
  (pss_one (ps_for PassesOwn.never rfl (pi_range1 (by rfl) (C.free 11 _ rfl) (pa_cons pe_int pa_nil)) (pg_name (i := 7) sc__law_sheet_of.nd rfl (by first | exact Or.inl rfl | exact Or.inr rfl)) (pss_cons (ps_asg (pe_dfK (d_law_poly_add C) rfl rfl rfl rfl rfl hr (by rfl) (pa_cons (pe_ix (ix_seqK K rfl) (pe_ix (ix_seqK K rfl) (pv 2) pe_int (fun _ _ => rfl)) (pv 7) (fun _ _ => rfl)) (pa_cons (pe_dfK (d_law_poly_later C) rfl rfl rfl rfl rfl hr (by rfl) (pa_cons (pe_ix (ix_seqK K rfl) (pv 6) (pv 7) (fun _ _ => rfl)) (pa_cons (pv 4) pa_nil))) pa_nil))) (pg_sub (pe_ix (ix_seqK K rfl) (pv 2) pe_int (fun _ _ => rfl)) (pv 7) set_list))
  (pss_one (ps_asg (pe_dfK (d_law_poly_add C) rfl rfl rfl rfl rfl hr (by rfl) (pa_cons (pe_ix (ix_seqK K rfl) (pe_ix (ix_seqK K rfl) (pv 2) pe_int (fun _ _ => rfl)) (pv 7) (fun _ _ => rfl)) (pa_cons (pe_dfK (d_law_poly_later C) rfl rfl rfl rfl rfl hr (by rfl) (pa_cons (pe_ix (ix_seqK K rfl) (pv 6) (pv 7) (fun _ _ => rfl)) (pa_cons (pe_dfK (d_law_mul C) rfl rfl rfl rfl rfl hr (by rfl) (pa_cons (pv 4) (pa_cons (pe_tup (pa_cons (pv 5) (pa_cons pe_int pa_nil))) pa_nil))) pa_nil))) pa_nil))) (pg_sub (pe_ix (ix_seqK K rfl) (pv 2) pe_int (fun _ _ => rfl)) (pv 7) set_list))))))))))
  (pss_one (ps_ret (pv 2))))), ?_⟩
  · rintro _ _ ⟨r, m, rfl, ok, rfl⟩
    rfl
  · rintro _ _ ⟨r, m, rfl, ok, rfl⟩
    have one : ∀ τ : List Sl, EvD T K (tLst (tCons (tC (V.int 1)) tNil)) τ (.list [.int 1]) := fun τ => (evf_lst (evds_cons evd_int evds_nil) (Nat.le_of_ble_eq_true rfl)).ev
    have nil : ∀ τ : List Sl, EvD T K (tLst tNil) τ (.list []) := fun τ => (evf_lst evds_nil (Nat.zero_le _)).ev
    intro G0 H0 σ G H D tb g x pst
    refine seq_asg ?_
    refine cel_new tb g x rfl (one _) (nil _) (nil _) (one _) fun q a b G1 H1 B le off q0 a0 b0 tB gB so xB => ?_
    have x2 : En K B G1 H1 (σ.set 2 (some (.ref q))) [.dat (rw_ r), .dat (.int m), .cel q a b [.list [.int 1], .list []] [.list [], .list [.int 1]], .any, .any, .any, .any, .any] :=
      xB.set 2 so fun ds e => by cases e
    let ρs : Nat → List Sl := fun i => [.dat (rw_ r), .dat (.int m), .cel q a b [.list (shB r i (fun t => t.1.1) [.int 1]), .list (shB r i (fun t => t.1.2) [])] [.list (shB r i (fun t => t.2.1) []), .list (shB r i (fun t => t.2.2) [.int 1])], .any, .any, .any, .any, .any]
    have loop : StB T K [a, b] _ (ρs 0) (ρs (r.map pr).length) := stb_for (A := [a, b]) (js := [3, 4]) ρs (itd_T (ds := r.map pr) (evd_var (i := 0) rfl)) fun i d hd => by
      rw [List.getElem?_map] at hd
      cases hr : r[i]? with
      | none => rw [hr] at hd; cases hd
      | some p =>
        rw [hr] at hd
        cases hd
        have hm := List.mem_of_getElem? hr
        have hlt : i < r.length := (List.getElem?_eq_some_iff.mp hr).1
        refine ⟨_, tgd_tup2 tgd_name tgd_name, ?_⟩
        have st := sheet_turn (T := T) (K := K) (R := rw_ r) (M := .int m) (q := q) (a := a) (b := b) (shB_bit r i (fun t => t.1.1) bit_one) (shB_bit r i (fun t => t.1.2) bit_nil) (shB_bit r i (fun t => t.2.1) bit_nil) (shB_bit r i (fun t => t.2.2) bit_one) (ok.runs i (Nat.le_of_lt hlt)) (ok.ps p hm).1 (ok.ps p hm).2
        have e : ∀ (f : Tbl → Po) (z : List PyData), shB r (i + 1) f z = (f (shF (shT (r.take i)) p)).map fr := fun f z => by
          unfold shB
          rw [if_neg (Nat.succ_ne_zero i), shT_snoc hr]
        show StB T K [a, b] _ _ [.dat (rw_ r), .dat (.int m), .cel q a b [.list (shB r (i + 1) (fun t => t.1.1) [.int 1]), .list (shB r (i + 1) (fun t => t.1.2) [])] [.list (shB r (i + 1) (fun t => t.2.1) []), .list (shB r (i + 1) (fun t => t.2.2) [.int 1])], .any, .any, .any, .any, .any]
        rw [e, e, e, e]
        exact st
    refine seq_go ?_
    refine loop G0 B _ G1 H1 _ tB gB x2 fun σ3 G3 B3 H3 o3 t3 g3 l3 x3 => ?_
    rw [List.length_map] at x3
    obtain ⟨e3, _, ne, c0, va, vb, ⟨c1, q1⟩, c2, q2⟩ := x3.cel (i := 2) rfl
    refine ⟨_, e3, ?_⟩
    have leB : Le H0 B3 := fun y o e => by
      have n1 : y ≠ q := ne_of_none e q0
      have n2 : y ≠ a := ne_of_none e a0
      have n3 : y ≠ b := ne_of_none e b0
      rw [o3 y (by simp [n2, n3]), off y n1 n2 n3]
      exact e
    have gL := g3.less leB t3
    have gA := gL.listen a0 c1.2.2 c1.1
    have gb : (upd G3 a (.lst va)) b = none := by rw [upd_ne (fun z => ne.2.2 z.symm)]; exact c2.2.2
    have gBb := gA.listen b0 gb c2.1
    have gq : (upd (upd G3 a (.lst va)) b (.lst vb)) q = none := by rw [upd_ne ne.2.1, upd_ne ne.1]; exact c0.2.2
    have gQ := gBb.listen q0 gq c0.1
    refine pst (.ref q) _ _ gQ ?_
    rw [shRaw_eq]
    have l1 : Le G3 (upd (upd (upd G3 a (.lst va)) b (.lst vb)) q (.lst [.ref a, .ref b])) := ((Le.upd c1.2.2).trans (Le.upd gb)).trans (Le.upd gq)
    refine .lst upd_same (.cons (.lst ?_ (q1.le l1)) (.cons (.lst ?_ (q2.le l1)) .nil))
    · rw [upd_ne (fun z => ne.1 z.symm), upd_ne ne.2.2, upd_same]
    · rw [upd_ne (fun z => ne.2.1 z.symm), upd_same]
theorem c_sheet {r : Row} {m : Int} (ok : SheetOk r) : fSheet [rw_ r, .int m] (shRaw r) := ⟨r, m, rfl, ok, rfl⟩
end
end K37
namespace K37
open PySem PySem.Spec L2
local macro_rules | `(tactic| walk_at "sz") => `(tactic| first | assumption | decide | omega)
local macro_rules | `(tactic| walk_at "call") => `(tactic| fail "no call")
local macro_rules | `(tactic| walk_at "cb") => `(tactic| first
  | with_reducible exact gcd_D | with_reducible exact len_T | with_reducible exact len_L | with_reducible exact tuple_L | with_reducible exact tuple_T | with_reducible exact max_D | with_reducible exact min_D | with_reducible exact abs_D
  | with_reducible exact int_D | with_reducible exact int_B)
local macro_rules | `(tactic| walk_at "op") => `(tactic| first
  | with_reducible exact minus_int | with_reducible exact plus_int | ((with_reducible apply times_int); walk_at "sz") | ((with_reducible apply ix_tupD); exact rfl) | ((with_reducible apply ix_lstD); exact rfl)
  | with_reducible exact lt_intD | with_reducible exact le_intD | with_reducible exact gt_intD | with_reducible exact ge_intD
  | ((with_reducible apply eq_D) <;> first | exact rfl | exact fr_shaped _ | assumption) | ((with_reducible apply ne_D) <;> first | exact rfl | exact fr_shaped _ | assumption)
  | ((with_reducible apply fdiv_int); walk_at "sz") | ((with_reducible apply fmod_int); walk_at "sz")
  | ((with_reducible apply plus_tup); walk_at "sz") | ((with_reducible apply plus_lst); walk_at "sz"))
local macro_rules | `(tactic| walk_at "evs") => `(tactic| first
  | with_reducible exact evds_nil
  | ((with_reducible apply evds_cons); (· walk_at "ev"); (· walk_at "evs")))
local macro_rules | `(tactic| walk_at "ev") => `(tactic| first
  | assumption
  | ((with_reducible apply evd_var); exact rfl)
  | with_reducible exact evd_int | with_reducible exact evd_cst | with_reducible exact evd_non | with_reducible exact evd_bl
  | ((with_reducible apply evd_op); (· walk_at "ev"); (· walk_at "ev"); (· walk_at "op"))
  | ((with_reducible apply evd_un); (· walk_at "ev"); (· with_reducible exact neg_intD))
  | ((with_reducible apply evd_call); (· walk_at "evs"); (· walk_at "call"))
  | ((with_reducible apply evd_cb); (· walk_at "evs"); (· walk_at "cb"))
  | ((with_reducible apply evd_tup); (· walk_at "evs"); (· exact Nat.le_of_ble_eq_true rfl))
  | ((with_reducible apply evd_isN); walk_at "ev") | ((with_reducible apply evd_notN); walk_at "ev")
  | ((with_reducible apply evd_not); walk_at "ev"))
local macro_rules | `(tactic| walk_at "te") => `(tactic| first
  | ((with_reducible apply ted_test); walk_at "ev") | ((with_reducible apply ted_B); walk_at "ev") | ((with_reducible apply ted_not); walk_at "te"))

/-- alike to the last: asked of one thing twice -/
def fSameL (k : Nat) (ds : List PyData) (d : PyData) : Prop := ∃ x, ds = [x, x] ∧ dep x ≤ k ∧ okD x = true ∧ d = .bool true
section
variable {P : Program} {w : World} {K : PySem.W.Frag} {mg : Str → Option Value} {base : Heap} {T : Tb}
theorem sc__law_same : FnScope ["_law_mine", "_law_due", "_law_near", "_law_far"] ["_law_mine", "_law_due"] (defScope (top 73)) := ⟨rfl, rfl, rfl, by decide +kernel, rfl, by decide +kernel, by decide +kernel⟩
theorem kitb : kitB "NoneType" "bool" = some false ∧ kitB "bool" "bool" = some true ∧ kitB "int" "bool" = some false := ⟨by decide +kernel, by decide +kernel, by decide +kernel⟩
theorem kits : kitB "NoneType" "str" = some false ∧ kitB "bool" "str" = some false ∧ kitB "int" "str" = some false := ⟨by decide +kernel, by decide +kernel, by decide +kernel⟩
theorem kiti : kitB "NoneType" "int" = some false ∧ kitB "bool" "int" = some true ∧ kitB "int" "int" = some true := ⟨by decide +kernel, by decide +kernel, by decide +kernel⟩
theorem eqv_bools (b : Bool) : PyData.eqv (.bool b) (.bool b) = true := by cases b <;> rfl
theorem eqv_ints (n : Int) : PyData.eqv (.int n) (.int n) = true := by rw [eqv_int]; exact decide_eq_true rfl
/-- no list, no tuple -/
theorem same_flat {x : PyData} (hk : okD x = true) (hs : isSq x = false) : StD T K
      (tSeq
        (tIfS
          (tOr (tB (tIsN (tVar 1)))
            (tB
              (tCB (rIsiT K)
                (tCons (tVar 1) (tCons (tTup (tCons (tC (V.ty "bool")) (tCons (tC (V.ty "str")) tNil))) tNil)))))
          (tRet
            (tAndV (tOp (rEqD K) (tVar 0) (tVar 1))
              (tAndV
                (tOp (rEqD K) (tCB (rIsi K) (tCons (tVar 0) (tCons (tC (V.ty "bool")) tNil)))
                  (tCB (rIsi K) (tCons (tVar 1) (tCons (tC (V.ty "bool")) tNil))))
                (tOp (rEqD K) (tIsN (tVar 0)) (tIsN (tVar 1))))))
          tNext)
        (tRet (tAndV (tCB (rIsi K) (tCons (tVar 0) (tCons (tC (V.ty "int")) tNil))) (tAndV (tNotV (tCB (rIsi K) (tCons (tVar 0) (tCons (tC (V.ty "bool")) tNil)))) (tOp (rEqD K) (tVar 0) (tVar 1))))))
      [.dat x, .dat x, .any, .any] (.rt (.bool true)) := by
  cases x with
  | list xs => cases hs
  | tuple xs => cases hs
  | str s => rw [okD] at hk; cases hk
  | dict s => rw [okD] at hk; cases hk
  | none =>
    refine std_seqR (std_if (x := true) (ted_or (x := true) (y := true) (ted_B ((evd_isN (a := .none) (evd_var rfl)).is rfl)) fun h => by cases h) (fun _ => std_ret ?_) fun h => by cases h)
    exact evd_and (x := true) ((evd_op (evd_var rfl) (evd_var rfl) (eq_D rfl rfl)).is rfl) (fun _ => evd_and (x := true) ((evd_op (evd_isi (d := .none) (evd_var rfl) kitb.1) (evd_isi (d := .none) (evd_var rfl) kitb.1) (eq_D rfl rfl)).is rfl) (fun _ => (evd_op (evd_isN (a := .none) (evd_var rfl)) (evd_isN (a := .none) (evd_var rfl)) (eq_D rfl rfl)).is rfl) fun h => by cases h) fun h => by cases h
  | bool b =>
    refine std_seqR (std_if (x := true) (ted_or (x := false) (y := true) (ted_B ((evd_isN (a := .bool b) (evd_var rfl)).is rfl)) fun _ => ted_B (evd_isi2 (d := .bool b) (evd_var rfl) kitb.2.1 kits.2.1)) (fun _ => std_ret ?_) fun h => by cases h)
    exact evd_and (x := true) ((evd_op (evd_var rfl) (evd_var rfl) (eq_D rfl rfl)).is (congrArg PyData.bool (eqv_bools b))) (fun _ => evd_and (x := true) ((evd_op (evd_isi (d := .bool b) (evd_var rfl) kitb.2.1) (evd_isi (d := .bool b) (evd_var rfl) kitb.2.1) (eq_D rfl rfl)).is rfl) (fun _ => (evd_op (evd_isN (a := .bool b) (evd_var rfl)) (evd_isN (a := .bool b) (evd_var rfl)) (eq_D rfl rfl)).is rfl) fun h => by cases h) fun h => by cases h
  | int n =>
    refine std_seq (std_if (x := false) (ted_or (x := false) (y := false) (ted_B ((evd_isN (a := .int n) (evd_var rfl)).is rfl)) fun _ => ted_B (evd_isi2 (d := .int n) (evd_var rfl) kitb.2.2 kits.2.2)) (fun h => by cases h) fun _ => std_next) (std_ret ?_)
    exact evd_and (x := true) (evd_isi (d := .int n) (evd_var rfl) kiti.2.2) (fun _ => evd_and (x := true) (evd_not (evd_isi (d := .int n) (evd_var rfl) kitb.2.2)) (fun _ => (evd_op (evd_var rfl) (evd_var rfl) (eq_D rfl rfl)).is (congrArg PyData.bool (eqv_ints n))) fun h => by cases h) fun h => by cases h
theorem law_same_0 (C : CT P w K mg base T) : Df P w K mg base "_law_same" 1 ["_law_mine", "_law_due"] (spF T K (fSameL 0)) := by
  refine df_of C (i := 55) (x := "_law_same") (N := ["_law_mine", "_law_due", "_law_near", "_law_far"]) (n := 2) rfl sc__law_same (fun _ _ _ _ _ _ us hl => match us, hl with | [_, _], _ => rfl) ?_ rfl fun cdv A outer s H E fa hr => ⟨_,
    (pss_cons (ps_if (pt_val (pe_callB (call_isiK2 K rfl) (by rfl) (C.free 6 _ rfl) (by decide +kernel) (pa_cons (pv 1) (pa_cons (pe_tup (pa_cons (pe_bltn (v := .ty "list") (by rfl) (C.free 8 _ rfl) (by decide +kernel) rfl) (pa_cons (pe_bltn (v := .ty "tuple") (by rfl) (C.free 16 _ rfl) (by decide +kernel) rfl) pa_nil))) pa_nil)))) (pss_cons ps_never (pss_one ps_never)) pss_nil)
  (pss_cons (ps_if (PW.pt (pw_or (pt_cmp (pc_isN (pv 1))) (pw_or1 (pt_val (pe_callB (call_isiK2 K rfl) (by rfl) (C.free 6 _ rfl) (by decide +kernel) (pa_cons (pv 1) (pa_cons (pe_tup (pa_cons (pe_bltn (v := .ty "bool") (by rfl) (C.free 3 _ rfl) (by decide +kernel) rfl) (pa_cons (pe_bltn (v := .ty "str") (by rfl) (C.free 15 _ rfl) (by decide +kernel) rfl) pa_nil))) pa_nil))))))) (pss_one (ps_ret (pe_and (pe_cmpR (op_eqK K rfl hr.units) (pv 0) (pv 1) (nomark _)) (pe_and (pe_cmpR (op_eqK K rfl hr.units) (pe_callB (call_isiK1 K rfl) (by rfl) (C.free 6 _ rfl) (by decide +kernel) (pa_cons (pv 0) (pa_cons (pe_bltn (v := .ty "bool") (by rfl) (C.free 3 _ rfl) (by decide +kernel) rfl) pa_nil))) (pe_callB (call_isiK1 K rfl) (by rfl) (C.free 6 _ rfl) (by decide +kernel) (pa_cons (pv 1) (pa_cons (pe_bltn (v := .ty "bool") (by rfl) (C.free 3 _ rfl) (by decide +kernel) rfl) pa_nil))) (nomark _)) (pe_one (pe_cmpR (op_eqK K rfl hr.units) (pe_cmp (pc_isN (pv 0)) rfl) (pe_cmp (pc_isN (pv 1)) rfl) (nomark _))))))) pss_nil)
  (pss_one (ps_ret (pe_and (pe_callB (call_isiK1 K rfl) (by rfl) (C.free 6 _ rfl) (by decide +kernel) (pa_cons (pv 0) (pa_cons (pe_bltn (v := .ty "int") (by rfl) (C.free 5 _ rfl) (by decide +kernel) rfl) pa_nil))) (pe_and (pe_not (pe_callB (call_isiK1 K rfl) (by rfl) (C.free 6 _ rfl) (by decide +kernel) (pa_cons (pv 0) (pa_cons (pe_bltn (v := .ty "bool") (by rfl) (C.free 3 _ rfl) (by decide +kernel) rfl) pa_nil)))) (pe_one (pe_cmpR (op_eqK K rfl hr.units) (pv 0) (pv 1) (nomark _))))))))), ?_⟩
  · rintro _ _ ⟨x, rfl, _⟩
    rfl
  · rintro _ _ ⟨x, rfl, h0, hk, rfl⟩
    obtain ⟨b1, b2, e1, e2, e3⟩ := kit_lt hk
    have hs : isSq x = false := by
      cases x with
      | list xs => rw [dep] at h0; omega
      | tuple xs => rw [dep] at h0; omega
      | _ => rfl
    exact std_seq (std_if (x := false) ((ted_B (evd_isi2 (evd_var rfl) e1 e2)).is (e3.trans hs)) (fun h => by cases h) fun _ => std_next) (same_flat hk hs)
theorem law_same_s (C : CT P w K mg base T) {k : Nat} (D : Df P w K mg base "_law_same" (k + 1) ["_law_mine", "_law_due"] (spF T K (fSameL k))) : Df P w K mg base "_law_same" (k + 2) ["_law_mine", "_law_due"] (spF T K (fSameL (k + 1))) := by
  refine df_of C (i := 55) (x := "_law_same") (N := ["_law_mine", "_law_due", "_law_near", "_law_far"]) (n := 2) rfl sc__law_same (fun _ _ _ _ _ _ us hl => match us, hl with | [_, _], _ => rfl) ?_ rfl fun cdv A outer s H E fa hr => ⟨_,
    (pss_cons (ps_if (pt_val (pe_callB (call_isiK2 K rfl) (by rfl) (C.free 6 _ rfl) (by decide +kernel) (pa_cons (pv 1) (pa_cons (pe_tup (pa_cons (pe_bltn (v := .ty "list") (by rfl) (C.free 8 _ rfl) (by decide +kernel) rfl) (pa_cons (pe_bltn (v := .ty "tuple") (by rfl) (C.free 16 _ rfl) (by decide +kernel) rfl) pa_nil))) pa_nil)))) (pss_cons (ps_if (PW.pt (pw_or (pt_cmpR (op_neK K rfl hr.units) (pe_callB (call_isiK1 K rfl) (by rfl) (C.free 6 _ rfl) (by decide +kernel) (pa_cons (pv 0) (pa_cons (pe_bltn (v := .ty "list") (by rfl) (C.free 8 _ rfl) (by decide +kernel) rfl) pa_nil))) (pe_callB (call_isiK1 K rfl) (by rfl) (C.free 6 _ rfl) (by decide +kernel) (pa_cons (pv 1) (pa_cons (pe_bltn (v := .ty "list") (by rfl) (C.free 8 _ rfl) (by decide +kernel) rfl) pa_nil))) (nomark _)) (pw_or1 (pt_cmpR (op_neK K rfl hr.units) (pe_callB (call_isiK1 K rfl) (by rfl) (C.free 6 _ rfl) (by decide +kernel) (pa_cons (pv 0) (pa_cons (pe_bltn (v := .ty "tuple") (by rfl) (C.free 16 _ rfl) (by decide +kernel) rfl) pa_nil))) (pe_callB (call_isiK1 K rfl) (by rfl) (C.free 6 _ rfl) (by decide +kernel) (pa_cons (pv 1) (pa_cons (pe_bltn (v := .ty "tuple") (by rfl) (C.free 16 _ rfl) (by decide +kernel) rfl) pa_nil))) (nomark _))))) (pss_one (ps_ret pe_bl)) pss_nil)
  (pss_one (ps_ret (pe_and (pe_cmpR (op_eqK K rfl hr.units) (pe_callB (call_lenK K rfl) (by rfl) (C.free 7 _ rfl) (by decide +kernel) (pa_cons (pv 0) pa_nil)) (pe_callB (call_lenK K rfl) (by rfl) (C.free 7 _ rfl) (by decide +kernel) (pa_cons (pv 1) pa_nil)) (nomark _)) (pe_one (pe_callB (cr_allK K rfl rfl) (by rfl) (C.free 1 _ rfl) (by decide +kernel) (pa_cons (pe_lc rfl sc__law_same.nd (pi_zipX K rfl (by rfl) (C.free 17 _ rfl) (pa_cons (pv 0) (pa_cons (pv 1) pa_nil))) (blkOk_by (own := [("_law_near", 2), ("_law_far", 3)]) (by kernel_rfl)) (fun _ _ _ _ _ => (pg_tupK K rfl (n := 2) rfl (pgs_cons (pg_name (i := 2) sc__law_same.nd rfl (by first | exact Or.inl rfl | exact Or.inr rfl)) (pgs_cons (pg_name (i := 3) sc__law_same.nd rfl (by first | exact Or.inl rfl | exact Or.inr rfl)) pgs_nil)))) (fun _ _ _ _ _ => pts_nil) (fun _ _ _ _ _ => (pe_dfK (hj := Nat.le_refl _) D rfl rfl rfl rfl rfl hr (by rfl) (pa_cons (pv 2) (pa_cons (pv 3) pa_nil))))) pa_nil))))))) pss_nil)
  (pss_cons (ps_if (PW.pt (pw_or (pt_cmp (pc_isN (pv 1))) (pw_or1 (pt_val (pe_callB (call_isiK2 K rfl) (by rfl) (C.free 6 _ rfl) (by decide +kernel) (pa_cons (pv 1) (pa_cons (pe_tup (pa_cons (pe_bltn (v := .ty "bool") (by rfl) (C.free 3 _ rfl) (by decide +kernel) rfl) (pa_cons (pe_bltn (v := .ty "str") (by rfl) (C.free 15 _ rfl) (by decide +kernel) rfl) pa_nil))) pa_nil))))))) (pss_one (ps_ret (pe_and (pe_cmpR (op_eqK K rfl hr.units) (pv 0) (pv 1) (nomark _)) (pe_and (pe_cmpR (op_eqK K rfl hr.units) (pe_callB (call_isiK1 K rfl) (by rfl) (C.free 6 _ rfl) (by decide +kernel) (pa_cons (pv 0) (pa_cons (pe_bltn (v := .ty "bool") (by rfl) (C.free 3 _ rfl) (by decide +kernel) rfl) pa_nil))) (pe_callB (call_isiK1 K rfl) (by rfl) (C.free 6 _ rfl) (by decide +kernel) (pa_cons (pv 1) (pa_cons (pe_bltn (v := .ty "bool") (by rfl) (C.free 3 _ rfl) (by decide +kernel) rfl) pa_nil))) (nomark _)) (pe_one (pe_cmpR (op_eqK K rfl hr.units) (pe_cmp (pc_isN (pv 0)) rfl) (pe_cmp (pc_isN (pv 1)) rfl) (nomark _))))))) pss_nil)
  (pss_one (ps_ret (pe_and (pe_callB (call_isiK1 K rfl) (by rfl) (C.free 6 _ rfl) (by decide +kernel) (pa_cons (pv 0) (pa_cons (pe_bltn (v := .ty "int") (by rfl) (C.free 5 _ rfl) (by decide +kernel) rfl) pa_nil))) (pe_and (pe_not (pe_callB (call_isiK1 K rfl) (by rfl) (C.free 6 _ rfl) (by decide +kernel) (pa_cons (pv 0) (pa_cons (pe_bltn (v := .ty "bool") (by rfl) (C.free 3 _ rfl) (by decide +kernel) rfl) pa_nil)))) (pe_one (pe_cmpR (op_eqK K rfl hr.units) (pv 0) (pv 1) (nomark _))))))))), ?_⟩
  · rintro _ _ ⟨x, rfl, _⟩
    rfl
  · rintro _ _ ⟨x, rfl, h0, hk, rfl⟩
    obtain ⟨b1, b2, e1, e2, e3⟩ := kit_lt hk
    cases hs : isSq x with
    | false => exact std_seq (std_if (x := false) ((ted_B (evd_isi2 (evd_var rfl) e1 e2)).is (e3.trans hs)) (fun h => by cases h) fun _ => std_next) (same_flat hk hs)
    | true =>
      obtain ⟨kk, xs, ex⟩ : ∃ kk xs, x = sqD kk xs := by
        cases x with
        | list xs => exact ⟨true, xs, rfl⟩
        | tuple xs => exact ⟨false, xs, rfl⟩
        | _ => cases hs
      have hd : deps xs ≤ k ∧ xs.length ≤ 10000 ∧ okDs xs = true := by
        subst ex
        cases kk with
        | true =>
          rw [sqD, dep] at h0
          rw [sqD, okD, Bool.and_eq_true] at hk
          exact ⟨by omega, of_decide_eq_true hk.1, hk.2⟩
        | false =>
          rw [sqD, dep] at h0
          rw [sqD, okD, Bool.and_eq_true] at hk
          exact ⟨by omega, of_decide_eq_true hk.1, hk.2⟩
      have lenE : EvD T K (tOp (rEqD K) (tCB (rLenS K) (tCons (tVar 0) tNil)) (tCB (rLenS K) (tCons (tVar 1) tNil))) [.dat x, .dat x, .any, .any] (.bool true) := by
        have l : EvD T K (tCB (rLenS K) (tCons (tVar 0) tNil)) [.dat x, .dat x, .any, .any] (.int xs.length) := by
          subst ex
          cases kk with
          | true => exact evd_cb (evds_cons (evd_var rfl) evds_nil) len_L
          | false => exact evd_cb (evds_cons (evd_var rfl) evds_nil) len_T
        have l2 : EvD T K (tCB (rLenS K) (tCons (tVar 1) tNil)) [.dat x, .dat x, .any, .any] (.int xs.length) := by
          subst ex
          cases kk with
          | true => exact evd_cb (evds_cons (evd_var rfl) evds_nil) len_L
          | false => exact evd_cb (evds_cons (evd_var rfl) evds_nil) len_T
        exact (evd_op l l2 (eq_D rfl rfl)).is (congrArg PyData.bool (eqv_ints _))
      have i1 : EvD T K (tCB (rIsi K) (tCons (tVar 0) (tCons (tC (V.ty "list")) tNil))) [.dat x, .dat x, .any, .any] (.bool b1) := evd_isi (evd_var rfl) e1
      have i2 : EvD T K (tCB (rIsi K) (tCons (tVar 1) (tCons (tC (V.ty "list")) tNil))) [.dat x, .dat x, .any, .any] (.bool b1) := evd_isi (evd_var rfl) e1
      have i3 : EvD T K (tCB (rIsi K) (tCons (tVar 0) (tCons (tC (V.ty "tuple")) tNil))) [.dat x, .dat x, .any, .any] (.bool b2) := evd_isi (evd_var rfl) e2
      have i4 : EvD T K (tCB (rIsi K) (tCons (tVar 1) (tCons (tC (V.ty "tuple")) tNil))) [.dat x, .dat x, .any, .any] (.bool b2) := evd_isi (evd_var rfl) e2
      have nb : ∀ b : Bool, (!PyData.eqv (.bool b) (.bool b)) = false := fun b => by cases b <;> rfl
      refine std_seqR (std_if (x := true) ((ted_B (evd_isi2 (evd_var rfl) e1 e2)).is (e3.trans hs)) (fun _ => ?_) fun h => by cases h)
      refine std_seq (std_if (x := false) ((ted_or (x := false) (y := false) (ted_test ((evd_op i1 i2 (ne_D rfl rfl)).is (congrArg PyData.bool (nb b1)))) fun _ => ted_test ((evd_op i3 i4 (ne_D rfl rfl)).is (congrArg PyData.bool (nb b2))))) (fun h => by cases h) fun _ => std_next) (std_ret (evd_and (x := true) lenE (fun _ => ?_) fun h => by cases h))
      have it : ItD T K (iZipX K (tCons (tVar 0) (tCons (tVar 1) tNil))) [.dat x, .dat x, .any, .any] (zipD xs xs) := by
        subst ex
        exact itd_zip kk kk (evds_cons (evd_var rfl) (evds_cons (evd_var rfl) evds_nil))
      have zl : (zipD xs xs).length = xs.length := by unfold zipD; rw [List.length_zipWith]; omega
      refine (evd_cb (evds_cons (evf_lc (js := [2, 3]) ((List.replicate xs.length true).map PyData.bool) it (by decide) (by rw [zl]; simp) (by omega) ?_).ev evds_nil) all_D).is (congrArg PyData.bool all_map)
      intro i d e hd2 he
      rw [List.getElem?_map, List.getElem?_replicate] at he
      split at he
      · rename_i hi
        cases he
        unfold zipD at hd2
        rw [List.getElem?_zipWith, List.getElem?_eq_getElem hi] at hd2
        cases hd2
        have hm := List.getElem_mem hi
        exact ⟨_, tgd_tup2 tgd_name tgd_name, evd_call (evds_cons (evd_var rfl) (evds_cons (evd_var rfl) evds_nil)) ⟨_, rfl, Nat.le_trans (dep_mem hm) hd.1, okD_mem hd.2.2 hm, rfl⟩⟩
      · cases he
theorem law_same_k (C : CT P w K mg base T) : ∀ k, Df P w K mg base "_law_same" (k + 1) ["_law_mine", "_law_due"] (spF T K (fSameL k))
  | 0 => law_same_0 C
  | k + 1 => law_same_s C (law_same_k C k)
theorem d_law_same (C : CT P w K mg base T) : Df P w K mg base "_law_same" 10 ["_law_mine", "_law_due"] (spF T K (fSameL 9)) := law_same_k C 9
theorem c_same {x : PyData} (h1 : dep x ≤ 9) (h2 : okD x = true) : fSameL 9 [x, x] (.bool true) := ⟨x, rfl, h1, h2, rfl⟩
end
end K37
namespace K37
open PySem
/-! ### what one case needs -/
structure CaseOk (m : Nat) (r s : Row) : Prop where
  m2 : 2 ≤ m
  m4 : m ≤ 4
  hr : RowS m 18 r
  hs : RowS m 18 s
  hl : r.length + s.length ≤ 30
  pw : PwOk (restR r s)
  word : (pword (restR r s)).isSome = !decide (restR r s = [])
def sprB (h : Rat) (r s : Row) : Bool := decide (act (flowE spr h) r e1 = act (flowE spr h) s e1) && decide (act (flowE spr h) r e2 = act (flowE spr h) s e2)
/-! the least, its sign kept -/
def leastL (l : Rat) (p : Int × Rat) : Rat := if p.2.abs < l.abs then p.2 else l
def leastR : Row → Rat
  | [] => 1
  | p :: r => (p :: r).foldl leastL p.2
theorem least_abs : ∀ (r : Row) (l : Rat), (r.foldl leastL l).abs = r.foldl lessA l.abs
  | [], l => rfl
  | p :: r, l => by
    rw [List.foldl_cons, List.foldl_cons, least_abs r]
    congr 1
    unfold leastL lessA
    split <;> rfl
theorem leastR_abs {t : Row} (h : t ≠ []) : (leastR t).abs = minA t := by
  cases t with
  | nil => exact absurd rfl h
  | cons p r => exact least_abs (p :: r) p.2
theorem least_in : ∀ (r : Row) (l : Rat), r.foldl leastL l = l ∨ ∃ p ∈ r, r.foldl leastL l = p.2
  | [], l => .inl rfl
  | p :: r, l => by
    rw [List.foldl_cons]
    rcases least_in r (leastL l p) with h | ⟨q, hq, h⟩
    · rw [h]
      unfold leastL
      split
      · exact .inr ⟨p, .head _, rfl⟩
      · exact .inl rfl
    · exact .inr ⟨q, .tail _ hq, h⟩
theorem leastR_in {t : Row} (h : t ≠ []) : ∃ p ∈ t, leastR t = p.2 := by
  cases t with
  | nil => exact absurd rfl h
  | cons p r =>
    rcases least_in (p :: r) p.2 with e | e
    · exact ⟨p, .head _, e⟩
    · exact e
theorem least_step {t : Row} (h : t ≠ []) : Rat.divInt (2 * ((leastR t).den : Int)) ((leastR t).num.natAbs : Int) = stepQ t := by
  rw [step_ne h, ← leastR_abs h, ← rat_over]
  rw [abs_num, abs_den]
  have e1 : (2 : Rat).num = 2 := rfl
  have e2 : (2 : Rat).den = 1 := rfl
  rw [e1, e2]
  simp
theorem step3 (x : Rat) : Rat.divInt (x.num * 3) (x.den : Int) = x * 3 := by
  rw [← rat_times]
  have e1 : (3 : Rat).num = 3 := rfl
  have e2 : (3 : Rat).den = 1 := rfl
  rw [e1, e2]
  simp
/-! the tables, both ways -/
theorem shF_eq {m : Nat} {p : Int × Rat} (h : 0 ≤ p.1 ∧ p.1 < m) (t : Tbl) : shF t p = tabE (cells m) p.1 p.2 t := by
  unfold shF tabE
  rw [nm_cells h.1 h.2, ← sheet_step]
  have e : ((p.1 + 1 : Int) : Rat) = 1 + ((p.1.toNat : Nat) : Rat) := by
    have h1 : p.1 + 1 = 1 + ((p.1.toNat : Nat) : Int) := by omega
    rw [h1, Rat.intCast_add, Rat.intCast_natCast]; rfl
  rw [e]
theorem shT_eq {m : Nat} {r : Row} (h : ∀ p ∈ r, 0 ≤ p.1 ∧ p.1 < m) : shT r = act (tabE (cells m)) r IT := by
  have : ∀ (r : Row) (t : Tbl), (∀ p ∈ r, 0 ≤ p.1 ∧ p.1 < m) → r.foldl shF t = act (tabE (cells m)) r t := fun r => by
    induction r with
    | nil => intro t _; rfl
    | cons p r ih =>
      intro t h
      rw [List.foldl_cons, shF_eq (h p (.head _)), ih _ fun q hq => h q (.tail _ hq)]; rfl
  exact this r IT h
theorem sheet_ok {m : Nat} (m4 : m ≤ 4) {r : Row} (hr : RowS m 18 r) (tk : TabOk (cells m) r) : SheetOk r where
  len := tk.len
  ps := fun p hp => ⟨by have := hr.parts p hp; omega, tk.xs p hp⟩
  runs := fun i hi => by
    rw [shT_eq (m := m) fun p hp => hr.parts p (List.mem_of_mem_take hp)]
    exact tk.runs i hi
/-! tables as data -/
theorem tt2_eqv (a b : Po × Po) : PyData.eqv (tt2 a) (tt2 b) = decide (a = b) := by
  show (PyData.eqv (pl a.1) (pl b.1) && (PyData.eqv (pl a.2) (pl b.2) && true)) = _
  rw [pl_eqv, pl_eqv, Bool.and_true, ← Bool.decide_and]
  exact decide_eq_decide.mpr ⟨fun h => Prod.ext h.1 h.2, fun h => by rw [h]; exact ⟨rfl, rfl⟩⟩
theorem tft_eqv (a b : Tbl) : PyData.eqv (tft a) (tft b) = decide (a = b) := by
  show (PyData.eqv (tt2 a.1) (tt2 b.1) && (PyData.eqv (tt2 a.2) (tt2 b.2) && true)) = _
  rw [tt2_eqv, tt2_eqv, Bool.and_true, ← Bool.decide_and]
  exact decide_eq_decide.mpr ⟨fun h => Prod.ext h.1 h.2, fun h => by rw [h]; exact ⟨rfl, rfl⟩⟩
theorem tft_shaped (t : Tbl) : SeqAt.shaped (tft t) = true := by
  have a := frs_depth t.1.1
  have b := frs_depth t.1.2
  have c := frs_depth t.2.1
  have d := frs_depth t.2.2
  simp [SeqAt.shaped, tft, tt2, pl, PyData.canLay0, PyData.canLayAll0, PyData.depth, PyData.depthAll, frs_lay]
  omega
theorem dep_pl (p : Po) : dep (pl p) ≤ 2 := by
  have := deps_map fr (k := 1) (fun x => by rw [dep_fr]; omega) p
  show deps (p.map fr) + 1 ≤ 2
  omega
theorem ok_pl {p : Po} (h : p.length ≤ 10000) : okD (pl p) = true := by
  show (decide ((p.map fr).length ≤ 10000) && okDs (p.map fr)) = true
  rw [okDs_map fr ok_fr, List.length_map, decide_eq_true h]; rfl
theorem dep_row (r : Row) : dep (rw_ r) ≤ 3 := by
  have := deps_map pr (k := 2) (fun x => by rw [dep_pr]; omega) r
  show deps (r.map pr) + 1 ≤ 3
  omega
theorem ok_row {r : Row} (h : r.length ≤ 1000) : okD (rw_ r) = true := by
  show (decide ((r.map pr).length ≤ 10000) && okDs (r.map pr)) = true
  rw [okDs_map pr ok_pr, List.length_map, decide_eq_true (by omega)]; rfl
theorem dep_tft (t : Tbl) : dep (tft t) ≤ 4 := by
  have a := dep_pl t.1.1
  have b := dep_pl t.1.2
  have c := dep_pl t.2.1
  have d := dep_pl t.2.2
  show max (max (dep (pl t.1.1)) (max (dep (pl t.1.2)) 0) + 1) (max (max (dep (pl t.2.1)) (max (dep (pl t.2.2)) 0) + 1) 0) + 1 ≤ 4
  omega
theorem ok_tft {t : Tbl} (h : (t.1.1.length ≤ 500 ∧ t.1.2.length ≤ 500) ∧ (t.2.1.length ≤ 500 ∧ t.2.2.length ≤ 500)) : okD (tft t) = true := by
  have a := ok_pl (p := t.1.1) (by omega)
  have b := ok_pl (p := t.1.2) (by omega)
  have c := ok_pl (p := t.2.1) (by omega)
  have d := ok_pl (p := t.2.2) (by omega)
  have two : ∀ u : Po × Po, okD (pl u.1) = true → okD (pl u.2) = true → okD (tt2 u) = true := fun u h1 h2 => by
    show (true && (okD (pl u.1) && (okD (pl u.2) && true))) = true
    rw [h1, h2]; rfl
  show (true && (okD (tt2 t.1) && (okD (tt2 t.2) && true))) = true
  rw [two t.1 a b, two t.2 c d]; rfl
theorem tab_lens {Ns : List Mx} {r : Row} (tk : TabOk Ns r) : (((act (tabE Ns) r IT).1.1.length ≤ 500 ∧ (act (tabE Ns) r IT).1.2.length ≤ 500) ∧ ((act (tabE Ns) r IT).2.1.length ≤ 500 ∧ (act (tabE Ns) r IT).2.2.length ≤ 500)) := by
  have := tk.runs r.length (Nat.le_refl _)
  rw [List.take_length] at this
  have a := this.1.1.1
  have b := this.1.2.1
  have c := this.2.1.1
  have d := this.2.2.1
  omega
/-! what the case comes to -/
section
variable {m : Nat} {r s : Row}
theorem CaseOk.tr (c : CaseOk m r s) : TabOk (cells m) r := tab_ok c.m4 (by have := c.m2; omega) c.hr (by decide)
theorem CaseOk.ts (c : CaseOk m r s) : TabOk (cells m) s := tab_ok c.m4 (by have := c.m2; omega) c.hs (by decide)
theorem CaseOk.tabs (c : CaseOk m r s) : decide (act (tabE (cells m)) r IT = act (tabE (cells m)) s IT) = decide (restR r s = []) := decide_eq_decide.mpr (tab_iff c.m4 c.hr c.hs)
theorem CaseOk.same (c : CaseOk m r s) : decide (nf r = nf s) = decide (restR r s = []) := decide_eq_decide.mpr (same_iff r s)
theorem run_spr {e μ : Nat} {h : Rat} (hr : RowS 2 18 r) (hs : RowS 2 18 s) (he : 0 < e) (hh : Bq e μ h) (hz : 6 * e + 32 * (18 * μ) ≤ 2 ^ 25) (hμ : μ ≤ 2 ^ 25) : RunOk spr h r s := by
  have one : ∀ t : Row, RowS 2 18 t → ∀ v, BV 1 1 v → FlowOk spr h t v := fun t ht v hv => flow_ok (m := 2) (by decide) mats_spr mb_spr (by decide) ht he hh hz hμ (by decide) hv
  exact ⟨one r hr e1 bv_e1, one r hr e2 bv_e2, one s hs e1 bv_e1, one s hs e2 bv_e2⟩
theorem CaseOk.shut (c : CaseOk 2 r s) (h : restR r s = []) : RunOk spr (5 / 3) r s ∧ sprB (5 / 3) r s = true := by
  have b : Bq 3 5 ((5 : Rat) / 3) := ⟨5, by rw [Rat.divInt_eq_div]; rfl, by decide⟩
  refine ⟨run_spr c.hr c.hs (by decide) b (by decide) (by decide), ?_⟩
  have A := flow_acts nil_sprs ((5 : Rat) / 3)
  unfold sprB
  rw [decide_eq_true (act_same A r s h e1), decide_eq_true (act_same A r s h e2)]; rfl
theorem CaseOk.open2 (c : CaseOk 2 r s) (h : restR r s ≠ []) : (RunOk spr (stepQ (restR r s)) r s ∧ sprB (stepQ (restR r s)) r s = false) ∧ (RunOk spr (stepQ (restR r s) * 3) r s ∧ sprB (stepQ (restR r s) * 3) r s = false) := by
  obtain ⟨⟨e, e0, eM, b1, b3⟩, far⟩ := step_facts h (rest_red r s) (rest_qs c.hr c.hs).2
  have pp : ∀ q ∈ restR r s, q.1 = 0 ∨ q.1 = 1 := fun q hq => by
    obtain ⟨u, hu, eu⟩ := rest_parts r s q hq
    rcases List.mem_append.mp hu with z | z
    · have := c.hr.parts u z
      omega
    · have := c.hs.parts u z
      omega
  have no : ∀ x : Rat, (∀ q ∈ restR r s, 2 ≤ ab (q.2 * x)) → sprB x r s = false := fun x hx => by
    have := spr_run h (h := x) fun q hq => ⟨pp q hq, hx q hq⟩
    unfold sprB
    rw [← Bool.decide_and]
    exact decide_eq_false this
  exact ⟨⟨run_spr c.hr c.hs e0 b1 (by omega) (by decide), no _ fun q hq => (far q hq).1⟩, ⟨run_spr c.hr c.hs e0 b3 (by omega) (by decide), no _ fun q hq => (far q hq).2⟩⟩
end
/-- the drawn rows are such cases -/
theorem parts_few {t : Row} {m : Nat} (h : ∀ p ∈ t, 0 ≤ p.1 ∧ p.1 < m) : (partsI t).length ≤ m := by
  have up := sortU_up (t.map (·.1))
  have all : ∀ k ∈ partsI t, 0 ≤ k ∧ k < m := fun k hk => by
    obtain ⟨p, hp, e⟩ := List.mem_map.mp (mem_sortU.mp hk)
    rw [← e]; exact h p hp
  have key : ∀ (l : List Int) (lo : Int), l.Pairwise (· < ·) → (∀ k ∈ l, lo ≤ k ∧ k < m) → (l.length : Int) ≤ max 0 (m - lo) := fun l => by
    induction l with
    | nil => intro lo _ _; simp; omega
    | cons x l ih =>
      intro lo hp ha
      have h2 := List.pairwise_cons.mp hp
      have h1 := ha x (.head _)
      have := ih (x + 1) h2.2 fun k hk => ⟨by have := h2.1 k hk; omega, (ha k (.tail _ hk)).2⟩
      rw [List.length_cons]
      omega
  have := key (partsI t) 0 up all
  omega
theorem case_of {m : Nat} (hm : m = 2 ∨ m = 3) {r s : Row} (d : Drawn m r s) (hl : r.length + s.length ≤ 12) : CaseOk m r s := by
  obtain ⟨hr, hs⟩ := d.rows hm
  have rl := rest_len r s
  have pp : ∀ q ∈ restR r s, 0 ≤ q.1 ∧ q.1 < m := fun q hq => by
    obtain ⟨u, hu, eu⟩ := rest_parts r s q hq
    rcases List.mem_append.mp hu with z | z
    · have := hr.parts u z
      omega
    · have := hs.parts u z
      omega
  refine ⟨by omega, by omega, hr, hs, by omega, pw_ok (M := 18 * 60) (by decide) (by decide) (by omega) (rest_qs hr hs).2 (.inl ⟨?_, ?_⟩), ?_⟩
  · have := parts_few pp
    unfold manyOf
    omega
  · unfold topOf
    omega
  · rcases d.good hm with e | g
    · rw [e]; decide +kernel
    · have h1 := good_found (rest_P3 hm hr hs) g
      rw [h1]
      have : restR r s ≠ [] := fun e => by
        rw [e] at h1
        exact absurd h1 (by decide +kernel)
      rw [decide_eq_false this]; rfl
theorem Drawn.few {m : Nat} {r s : Row} (d : Drawn m r s) : r.length + s.length ≤ 12 := by
  cases d with
  | k0 a b => have := a.len; have := b.len; omega
  | k1 a hx => have := a.len; simp; omega
  | k2 a hx hy => simp [brk, turnR]
  | k3 a hy => have := a.len; simp; omega
  | k4 a hx hy => simp [brk, turnR]
  | k5 a hx hy => simp [brk, turnR]
end K37
namespace K37
open PySem PySem.Spec L2
local macro_rules | `(tactic| walk_at "sz") => `(tactic| first | assumption | decide | omega)
local macro_rules | `(tactic| walk_at "call") => `(tactic| fail "no call")
local macro_rules | `(tactic| walk_at "cb") => `(tactic| first
  | with_reducible exact gcd_D | with_reducible exact len_T | with_reducible exact len_L | with_reducible exact tuple_L | with_reducible exact tuple_T | with_reducible exact max_D | with_reducible exact min_D | with_reducible exact abs_D
  | with_reducible exact int_D | with_reducible exact int_B)
local macro_rules | `(tactic| walk_at "op") => `(tactic| first
  | with_reducible exact minus_int | with_reducible exact plus_int | ((with_reducible apply times_int); walk_at "sz") | ((with_reducible apply ix_tupD); exact rfl) | ((with_reducible apply ix_lstD); exact rfl)
  | with_reducible exact lt_intD | with_reducible exact le_intD | with_reducible exact gt_intD | with_reducible exact ge_intD
  | ((with_reducible apply eq_D) <;> first | exact rfl | exact fr_shaped _ | assumption) | ((with_reducible apply ne_D) <;> first | exact rfl | exact fr_shaped _ | assumption)
  | ((with_reducible apply fdiv_int); walk_at "sz") | ((with_reducible apply fmod_int); walk_at "sz")
  | ((with_reducible apply plus_tup); walk_at "sz") | ((with_reducible apply plus_lst); walk_at "sz"))
local macro_rules | `(tactic| walk_at "evs") => `(tactic| first
  | with_reducible exact evds_nil
  | ((with_reducible apply evds_cons); (· walk_at "ev"); (· walk_at "evs")))
local macro_rules | `(tactic| walk_at "ev") => `(tactic| first
  | assumption
  | ((with_reducible apply evd_var); exact rfl)
  | with_reducible exact evd_int | with_reducible exact evd_cst | with_reducible exact evd_non | with_reducible exact evd_bl
  | ((with_reducible apply evd_op); (· walk_at "ev"); (· walk_at "ev"); (· walk_at "op"))
  | ((with_reducible apply evd_un); (· walk_at "ev"); (· with_reducible exact neg_intD))
  | ((with_reducible apply evd_call); (· walk_at "evs"); (· walk_at "call"))
  | ((with_reducible apply evd_cb); (· walk_at "evs"); (· walk_at "cb"))
  | ((with_reducible apply evd_tup); (· walk_at "evs"); (· exact Nat.le_of_ble_eq_true rfl))
  | ((with_reducible apply evd_isN); walk_at "ev") | ((with_reducible apply evd_notN); walk_at "ev")
  | ((with_reducible apply evd_not); walk_at "ev"))
local macro_rules | `(tactic| walk_at "te") => `(tactic| first
  | ((with_reducible apply ted_test); walk_at "ev") | ((with_reducible apply ted_B); walk_at "ev") | ((with_reducible apply ted_not); walk_at "te"))

def fSprS (ds : List PyData) (d : PyData) : Prop := ∃ (r s : Row) (h : Rat), ds = [rw_ r, rw_ s, fr h] ∧ RunOk spr h r s ∧ d = .bool (sprB h r s)
section
variable {P : Program} {w : World} {K : PySem.W.Frag} {mg : Str → Option Value} {base : Heap} {T : Tb}
theorem sc__law_spring_same : FnScope ["_law_row_so", "_law_other_so", "_law_step", "_law_starts_so", "_law_own"] ["_law_row_so", "_law_other_so", "_law_step"] (defScope (top 90)) := ⟨rfl, rfl, rfl, by decide +kernel, rfl, by decide +kernel, by decide +kernel⟩
theorem d_law_spring_same (C : CT P w K mg base T) : Df P w K mg base "_law_spring_same" 10 ["_law_row_so", "_law_other_so", "_law_step"] (spF T K fSprS) := by
  refine df_of C (i := 72) (x := "_law_spring_same") (N := ["_law_row_so", "_law_other_so", "_law_step", "_law_starts_so", "_law_own"]) (n := 2) rfl sc__law_spring_same (fun _ _ _ _ _ _ us hl => match us, hl with | [_, _, _], _ => rfl) ?_ rfl fun cdv A outer s H E fa hr => ⟨_, (pss_cons (ps_set (i := 3) sc__law_spring_same.nd rfl (by first | exact Or.inl rfl | exact Or.inr rfl) (pe_tup (pa_cons (pe_tup (pa_cons (pe_tup (pa_cons pe_int (pa_cons pe_int pa_nil))) (pa_cons (pe_tup (pa_cons pe_int (pa_cons pe_int pa_nil))) pa_nil))) (pa_cons (pe_tup (pa_cons (pe_tup (pa_cons pe_int (pa_cons pe_int pa_nil))) (pa_cons (pe_tup (pa_cons pe_int (pa_cons pe_int pa_nil))) pa_nil))) pa_nil))))
  (pss_one (ps_ret (pe_callB (cr_allK K rfl rfl) (by rfl) (C.free 1 _ rfl) (by decide +kernel) (pa_cons (pe_lc rfl sc__law_spring_same.nd (pi_seqK K rfl (pv 3)) (blkOk_by (own := [("_law_own", 4)]) (by kernel_rfl)) (fun _ _ _ _ _ => (pg_name (i := 4) sc__law_spring_same.nd rfl (by first | exact Or.inl rfl | exact Or.inr rfl))) (fun _ _ _ _ _ => pts_nil) (fun _ _ _ _ _ => (pe_cmpR (op_eqK K rfl hr.units) (pe_dfK (d_flow_at C) rfl rfl rfl rfl rfl hr (by rfl) (pa_cons (pv 0) (pa_cons (pe_dfK0 (d_spring_push C) rfl rfl rfl rfl rfl hr (by rfl)) (pa_cons (pv 2) (pa_cons (pv 4) pa_nil))))) (pe_dfK (d_flow_at C) rfl rfl rfl rfl rfl hr (by rfl) (pa_cons (pv 1) (pa_cons (pe_dfK0 (d_spring_push C) rfl rfl rfl rfl rfl hr (by rfl)) (pa_cons (pv 2) (pa_cons (pv 4) pa_nil))))) (nomark _)))) pa_nil))))), ?_⟩
  · rintro _ _ ⟨r, s, h, rfl, ok, rfl⟩
    rfl
  · rintro _ _ ⟨r, s, h, rfl, ok, rfl⟩
    have ei : ∀ τ : List Sl, EvD T K (tTup (tCons (tC (V.int 1)) (tCons (tC (V.int 1)) tNil))) τ (fr 1) := fun τ => evd_tup (evds_cons evd_int (evds_cons evd_int evds_nil)) (Nat.le_of_ble_eq_true rfl)
    have eo : ∀ τ : List Sl, EvD T K (tTup (tCons (tC (V.int 0)) (tCons (tC (V.int 1)) tNil))) τ (fr 0) := fun τ => evd_tup (evds_cons evd_int (evds_cons evd_int evds_nil)) (Nat.le_of_ble_eq_true rfl)
    let starts : List PyData := [vt e1, vt e2]
    refine std_seq (ρ1 := [.dat (rw_ r), .dat (rw_ s), .dat (fr h), .dat (.tuple starts), .any]) (std_asg (i := 3) (d := .tuple starts) (evd_tup (evds_cons (evd_tup (evds_cons (ei _) (evds_cons (eo _) evds_nil)) (Nat.le_of_ble_eq_true rfl)) (evds_cons (evd_tup (evds_cons (eo _) (evds_cons (ei _) evds_nil)) (Nat.le_of_ble_eq_true rfl)) evds_nil)) (Nat.le_of_ble_eq_true rfl))) ?_
    have one : ∀ v : Vc, FlowOk spr h r v → FlowOk spr h s v → EvD T K _ [.dat (rw_ r), .dat (rw_ s), .dat (fr h), .dat (.tuple starts), .dat (vt v)] (.bool (decide (act (flowE spr h) r v = act (flowE spr h) s v))) := fun v k1 k2 =>
      EvD.is (evd_op (evd_call (E := E0) (evds_cons (evd_var (i := 0) rfl) (evds_cons (evd_call (E := E0) evds_nil c_spring) (evds_cons (evd_var (i := 2) rfl) (evds_cons (evd_var (i := 4) rfl) evds_nil)))) (c_flow_at k1)) (evd_call (E := E0) (evds_cons (evd_var (i := 1) rfl) (evds_cons (evd_call (E := E0) evds_nil c_spring) (evds_cons (evd_var (i := 2) rfl) (evds_cons (evd_var (i := 4) rfl) evds_nil)))) (c_flow_at k2)) (eq_D (vt_shaped _) (vt_shaped _))) (congrArg PyData.bool (vt_eqv _ _))
    refine std_ret ((evd_cb (evds_cons (evf_lc (js := [4]) ([decide (act (flowE spr h) r e1 = act (flowE spr h) s e1), decide (act (flowE spr h) r e2 = act (flowE spr h) s e2)].map PyData.bool) (itd_T (ds := starts) (evd_var (i := 3) rfl)) (by decide) rfl (Nat.le_of_ble_eq_true rfl) ?_).ev evds_nil) all_D).is ?_)
    · intro i d e hd he
      match i, hd, he with
      | 0, hd, he => cases hd; cases he; exact ⟨_, tgd_name, one e1 ok.r1 ok.s1⟩
      | 1, hd, he => cases hd; cases he; exact ⟨_, tgd_name, one e2 ok.r2 ok.s2⟩
      | _ + 2, hd, he => cases hd
    · unfold sprB
      simp [List.all]
theorem c_sprs {r s : Row} {h : Rat} (ok : RunOk spr h r s) : fSprS [rw_ r, rw_ s, fr h] (.bool (sprB h r s)) := ⟨r, s, h, rfl, ok, rfl⟩
def fCase (ds : List PyData) (d : PyData) : Prop := ∃ (r s : Row) (m : Nat), ds = [rw_ r, rw_ s, .int m] ∧ CaseOk m r s ∧ d = .bool true
theorem c_sameW {r s : Row} {N : Nat} (h1 : RowQ N r) (h2 : RowQ N s) (h : N * 60 < 2 ^ 64) : fSame [rw_ r, rw_ s] (.bool (decide (nf r = nf s))) := ⟨r, s, N, rfl, h1, h2, h, rfl⟩
theorem c_pword {r s : Row} {N : Nat} (h1 : RowQ N r) (h2 : RowQ N s) (hl : r.length + s.length ≤ 60) (h : N * 60 < 2 ^ 64) (ok : PwOk (restR r s)) : fPword [rw_ r, rw_ s] (optW (pword (restR r s))) := ⟨r, s, N, rfl, h1, h2, hl, h, ok, rfl⟩
theorem c_run {r s : Row} {N : Nat} {d : PyData} (h1 : RowQ N r) (h2 : RowQ N s) (hl : r.length + s.length < 60) (h : N * 60 < 2 ^ 64) (ok : RunFor r s d) : fRun [rw_ r, rw_ s] d := ⟨r, s, N, rfl, h1, h2, hl, h, ok⟩
theorem c_turnedL {r : Row} (h1 : r.length ≤ 1000) (h2 : SmR r) : fTurned [rw_ r] (rw_ (turnR r)) := ⟨r, rfl, h1, h2, rfl⟩
theorem sc__law_case_right : FnScope ["_law_row_so", "_law_other_so", "_law_many", "_law_rest_so", "_law_same_here", "_law_tables", "_law_mine", "_law_step", "_law_least", "_law_part", "_law_much_here", "_law_own"] ["_law_row_so", "_law_other_so", "_law_many"] (defScope (top 91)) := ⟨rfl, rfl, rfl, by decide +kernel, rfl, by decide +kernel, by decide +kernel⟩
theorem d_law_case_right (C : CT P w K mg base T) : Df P w K mg base "_law_case_right" 15 ["_law_row_so", "_law_other_so", "_law_many"] (spF T K fCase) := by
  refine df_of C (i := 73) (x := "_law_case_right") (N := ["_law_row_so", "_law_other_so", "_law_many", "_law_rest_so", "_law_same_here", "_law_tables", "_law_mine", "_law_step", "_law_least", "_law_part", "_law_much_here", "_law_own"]) (n := 9) rfl sc__law_case_right (fun _ _ _ _ _ _ us hl => match us, hl with | [_, _, _], _ => rfl) ?_ rfl fun cdv A outer s H E fa hr => ⟨_, (pss_cons (ps_set (i := 3) sc__law_case_right.nd rfl (by first | exact Or.inl rfl | exact Or.inr rfl) (pe_dfK (d_law_rest C) rfl rfl rfl rfl rfl hr (by rfl) (pa_cons (pv 0) (pa_cons (pv 1) pa_nil))))
  (pss_cons (ps_set (i := 4) sc__law_case_right.nd rfl (by first | exact Or.inl rfl | exact Or.inr rfl) (pe_cmpR (op_eqK K rfl hr.units) (pv 3) (pe_tup pa_nil) (nomark _)))
  (pss_cons (ps_setLc (i := 5) rfl sc__law_case_right.nd rfl rfl (sw_true rfl rfl rfl (by kernel_rfl)) (pi_seqK K rfl (pe_tup (pa_cons (pv 0) (pa_cons (pv 1) pa_nil)))) (blkOk_by (own := [("_law_own", 11)]) (by kernel_rfl)) (fun _ _ _ _ _ => (pg_name (i := 11) sc__law_case_right.nd rfl (by first | exact Or.inl rfl | exact Or.inr rfl))) (fun _ _ _ _ _ => pts_nil) (fun _ _ _ _ _ => (pe_dfK (d_flow_table C) rfl rfl rfl rfl rfl hr (by rfl) (pa_cons (pv 11) (pa_cons (pe_dfK (d_cell_push C) rfl rfl rfl rfl rfl hr (by rfl) (pa_cons (pv 2) pa_nil)) pa_nil)))))
  (pss_cons (ps_if (pt_not (pt_val (pe_dfK (d_law_same C) rfl rfl rfl rfl rfl hr (by rfl) (pa_cons (pv 5) (pa_cons (pe_lc rfl sc__law_case_right.nd (pi_seqK K rfl (pe_tup (pa_cons (pv 0) (pa_cons (pv 1) pa_nil)))) (blkOk_by (own := [("_law_own", 11)]) (by kernel_rfl)) (fun _ _ _ _ _ => (pg_name (i := 11) sc__law_case_right.nd rfl (by first | exact Or.inl rfl | exact Or.inr rfl))) (fun _ _ _ _ _ => pts_nil) (fun _ _ _ _ _ => (pe_dfK (d_law_shown C) rfl rfl rfl rfl rfl hr (by rfl) (pa_cons (pe_dfK (d_law_sheet_of C) rfl rfl rfl rfl rfl hr (by rfl) (pa_cons (pv 11) (pa_cons (pv 2) pa_nil))) pa_nil)))) pa_nil))))) (pss_one (ps_ret pe_bl)) pss_nil)
  (pss_cons (ps_set (i := 6) sc__law_case_right.nd rfl (by first | exact Or.inl rfl | exact Or.inr rfl) (pe_lst (pa_cons (pe_cmpR (op_eqK K rfl hr.units) (pe_ix (ix_seqK K rfl) (pv 5) pe_int (fun _ _ => rfl)) (pe_ix (ix_seqK K rfl) (pv 5) pe_int (fun _ _ => rfl)) (nomark _)) (pa_cons (pe_dfK (d_is_same C) rfl rfl rfl rfl rfl hr (by rfl) (pa_cons (pv 0) (pa_cons (pv 1) pa_nil))) (pa_cons (pe_cmp (pc_isN (pe_dfK (d_parting_word C) rfl rfl rfl rfl rfl hr (by rfl) (pa_cons (pv 0) (pa_cons (pv 1) pa_nil)))) rfl) pa_nil)))))
  (pss_cons (ps_set (i := 6) sc__law_case_right.nd rfl (by first | exact Or.inl rfl | exact Or.inr rfl) (pe_op (op_plusK K rfl) (pv 6) (pe_lst (pa_cons (pe_cmp (pc_isN (pe_dfK (d_parting_run C) rfl rfl rfl rfl rfl hr (by rfl) (pa_cons (pv 0) (pa_cons (pv 1) pa_nil)))) rfl) (pa_cons (pe_dfK (d_normal_row C) rfl rfl rfl rfl rfl hr (by rfl) (pa_cons (pe_op (op_plusK K rfl) (pv 0) (pe_dfK (d_law_undone C) rfl rfl rfl rfl rfl hr (by rfl) (pa_cons (pv 1) pa_nil))) pa_nil)) pa_nil)))))
  (pss_cons (ps_if (pt_not (pt_val (pe_dfK (d_law_same C) rfl rfl rfl rfl rfl hr (by rfl) (pa_cons (pv 6) (pa_cons (pe_op (op_plusK K rfl) (pe_op (op_timesK K rfl) (pe_lst (pa_cons (pv 4) pa_nil)) pe_int) (pe_lst (pa_cons (pv 3) pa_nil))) pa_nil))))) (pss_one (ps_ret pe_bl)) pss_nil)
  (pss_cons (ps_if (pt_cmpR op_gt (pv 2) pe_int (nomark _)) (pss_one (ps_ret pe_bl)) pss_nil)
  (pss_cons (ps_set (i := 7) sc__law_case_right.nd rfl (by first | exact Or.inl rfl | exact Or.inr rfl) (pe_dfK (d_one_step C) rfl rfl rfl rfl rfl hr (by rfl) (pa_cons (pv 0) (pa_cons (pv 1) pa_nil))))
  (pss_cons (ps_if (pt_val (pv 4)) (pss_one (ps_ret (pe_dfK (d_law_same C) rfl rfl rfl rfl rfl hr (by rfl) (pa_cons (pe_lst (pa_cons (pv 7) (pa_cons (pe_dfK (d_law_spring_same C) rfl rfl rfl rfl rfl hr (by rfl) (pa_cons (pv 0) (pa_cons (pv 1) (pa_cons (pe_tup (pa_cons pe_int (pa_cons pe_int pa_nil))) pa_nil)))) pa_nil))) (pa_cons (pe_lst (pa_cons (pe_tup (pa_cons pe_int (pa_cons pe_int pa_nil))) (pa_cons pe_bl pa_nil))) pa_nil))))) pss_nil)
  (pss_cons (ps_set (i := 8) sc__law_case_right.nd rfl (by first | exact Or.inl rfl | exact Or.inr rfl) (pe_ix (ix_seqK K rfl) (pe_ix (ix_seqK K rfl) (pv 3) pe_int (fun _ _ => rfl)) pe_int (fun _ _ => rfl)))
  (pss_cons (ps_for PassesOwn.never rfl (pi_seqK K rfl (pv 3)) (pg_tupK K rfl (n := 2) rfl (pgs_cons (pg_name (i := 9) sc__law_case_right.nd rfl (by first | exact Or.inl rfl | exact Or.inr rfl)) (pgs_cons (pg_name (i := 10) sc__law_case_right.nd rfl (by first | exact Or.inl rfl | exact Or.inr rfl)) pgs_nil))) (pss_one (ps_set (i := 8) sc__law_case_right.nd rfl (by first | exact Or.inl rfl | exact Or.inr rfl) (pe_ifExp (pt_cmpR op_lt (pe_op (op_timesK K rfl) (pe_callB call_abs (by rfl) (C.free 0 _ rfl) (by decide +kernel) (pa_cons (pe_ix (ix_seqK K rfl) (pv 10) pe_int (fun _ _ => rfl)) pa_nil)) (pe_ix (ix_seqK K rfl) (pv 8) pe_int (fun _ _ => rfl))) (pe_op (op_timesK K rfl) (pe_callB call_abs (by rfl) (C.free 0 _ rfl) (by decide +kernel) (pa_cons (pe_ix (ix_seqK K rfl) (pv 8) pe_int (fun _ _ => rfl)) pa_nil)) (pe_ix (ix_seqK K rfl) (pv 10) pe_int (fun _ _ => rfl))) (nomark _)) (pv 10) (pv 8)))))
  (pss_cons (ps_set (i := 6) sc__law_case_right.nd rfl (by first | exact Or.inl rfl | exact Or.inr rfl) (pe_lst (pa_cons (pv 7) (pa_cons (pe_dfK (d_law_spring_same C) rfl rfl rfl rfl rfl hr (by rfl) (pa_cons (pv 0) (pa_cons (pv 1) (pa_cons (pv 7) pa_nil)))) (pa_cons (pe_dfK (d_law_spring_same C) rfl rfl rfl rfl rfl hr (by rfl) (pa_cons (pv 0) (pa_cons (pv 1) (pa_cons (pe_dfK (d_law_low C) rfl rfl rfl rfl rfl hr (by rfl) (pa_cons (pe_op (op_timesK K rfl) (pe_ix (ix_seqK K rfl) (pv 7) pe_int (fun _ _ => rfl)) pe_int) (pa_cons (pe_ix (ix_seqK K rfl) (pv 7) pe_int (fun _ _ => rfl)) pa_nil))) pa_nil)))) pa_nil)))))
  (pss_one (ps_ret (pe_dfK (d_law_same C) rfl rfl rfl rfl rfl hr (by rfl) (pa_cons (pv 6) (pa_cons (pe_lst (pa_cons (pe_dfK (d_law_low C) rfl rfl rfl rfl rfl hr (by rfl) (pa_cons (pe_op (op_timesK K rfl) pe_int (pe_ix (ix_seqK K rfl) (pv 8) pe_int (fun _ _ => rfl))) (pa_cons (pe_callB call_abs (by rfl) (C.free 0 _ rfl) (by decide +kernel) (pa_cons (pe_ix (ix_seqK K rfl) (pv 8) pe_int (fun _ _ => rfl)) pa_nil)) pa_nil))) (pa_cons pe_bl (pa_cons pe_bl pa_nil)))) pa_nil)))))))))))))))))), ?_⟩
  · rintro _ _ ⟨r, s, m, rfl, c, rfl⟩
    rfl
  · rintro _ _ ⟨r, s, m, rfl, c, rfl⟩
    have m4 := c.m4
    have hr := c.hr.q
    have hs := c.hs.q
    have lr := c.hr.len
    have ls := c.hs.len
    have hl60 : r.length + s.length ≤ 60 := by omega
    have hN : 18 * 60 < 2 ^ 64 := by decide
    have row2 : ∀ τ : List Sl, τ[0]? = some (.dat (rw_ r)) → τ[1]? = some (.dat (rw_ s)) → EvDs T K (tCons (tVar 0) (tCons (tVar 1) tNil)) τ [rw_ r, rw_ s] := fun τ h0 h1 => evds_cons (evd_var h0) (evds_cons (evd_var h1) evds_nil)
    let t1 := act (tabE (cells m)) r IT
    let t2 := act (tabE (cells m)) s IT
    let g := decide (restR r s = [])
    let ρ : Sl → Sl → Sl → Sl → Sl → Sl → List Sl := fun a b t mi st le => [.dat (rw_ r), .dat (rw_ s), .dat (.int (m : Nat)), a, b, t, mi, st, le, .any, .any, .any]
    have ρ2 : ∀ a b t mi st le, EvDs T K (tCons (tVar 0) (tCons (tVar 1) tNil)) (ρ a b t mi st le) [rw_ r, rw_ s] := fun a b t mi st le => row2 _ rfl rfl
    refine std_seq (ρ1 := ρ (.dat (rw_ (restR r s))) .any .any .any .any .any) (std_asg (evd_call (ρ2 .any .any .any .any .any .any) (c_rest hr hs hl60 hN))) ?_
    refine std_seq (ρ1 := ρ (.dat (rw_ (restR r s))) (.dat (.bool g)) .any .any .any .any) (std_asg (EvD.is (evd_op (evd_var rfl) (evd_tup evds_nil (Nat.zero_le _)) (eq_D (row_shaped _) rfl)) (congrArg PyData.bool (row_eqv _ [])))) ?_
    have tabE1 : EvD T K (tLc (iSeq K (tTup (tCons (tVar 0) (tCons (tVar 1) tNil)))) (gName 11) tYes (tCall (spF T K fTable) [] E0 (tCons (tVar 11) (tCons (tCall (spF T K fCell) [] E0 (tCons (tVar 2) tNil)) tNil))) [11]) (ρ (.dat (rw_ (restR r s))) (.dat (.bool g)) .any .any .any .any) (.list [tft t1, tft t2]) := by
      refine (evf_lc (js := [11]) [tft t1, tft t2] (itd_T (ds := [rw_ r, rw_ s]) (evd_tup (ρ2 _ _ _ _ _ _) (Nat.le_of_ble_eq_true rfl))) (by decide) rfl (Nat.le_of_ble_eq_true rfl) ?_).ev
      intro i d e hd he
      match i, hd, he with
      | 0, hd, he => cases hd; cases he; exact ⟨_, tgd_name, evd_call (evds_cons (evd_var rfl) (evds_cons (evd_call (evds_cons (evd_var rfl) evds_nil) (c_cell (by omega))) evds_nil)) (c_table c.tr)⟩
      | 1, hd, he => cases hd; cases he; exact ⟨_, tgd_name, evd_call (evds_cons (evd_var rfl) (evds_cons (evd_call (evds_cons (evd_var rfl) evds_nil) (c_cell (by omega))) evds_nil)) (c_table c.ts)⟩
      | _ + 2, hd, he => cases hd
    refine std_seq (ρ1 := ρ (.dat (rw_ (restR r s))) (.dat (.bool g)) (.dat (.list [tft t1, tft t2])) .any .any .any) (std_asg tabE1) ?_
    have l1 := tab_lens c.tr
    have l2 := tab_lens c.ts
    have sheet : ∀ (u : Row), RowS m 18 u → TabOk (cells m) u → fShown [shRaw u] (tft (act (tabE (cells m)) u IT)) := fun u hu tk => by
      rw [shRaw_eq]
      have le := tab_lens tk
      have es := shT_eq (m := m) (r := u) fun p hp => hu.parts p hp
      have b : ∀ (f : Tbl → Po) (z : List PyData), BitL (f IT) z → BitL (f (act (tabE (cells m)) u IT)) (shB u u.length f z) := fun f z hz => by
        have := shB_bit u u.length f hz
        rw [List.take_length, es] at this
        exact this
      exact c_shown ⟨b (fun t => t.1.1) _ bit_one, b (fun t => t.1.2) _ bit_nil⟩ ⟨b (fun t => t.2.1) _ bit_nil, b (fun t => t.2.2) _ bit_one⟩ le.1 le.2
    have dueE : EvD T K (tLc (iSeq K (tTup (tCons (tVar 0) (tCons (tVar 1) tNil)))) (gName 11) tYes (tCall (spF T K fShown) [] E0 (tCons (tCall (spF T K fSheet) [] E0 (tCons (tVar 11) (tCons (tVar 2) tNil))) tNil)) [11]) (ρ (.dat (rw_ (restR r s))) (.dat (.bool g)) (.dat (.list [tft t1, tft t2])) .any .any .any) (.list [tft t1, tft t2]) := by
      refine (evf_lc (js := [11]) [tft t1, tft t2] (itd_T (ds := [rw_ r, rw_ s]) (evd_tup (ρ2 _ _ _ _ _ _) (Nat.le_of_ble_eq_true rfl))) (by decide) rfl (Nat.le_of_ble_eq_true rfl) ?_).ev
      intro i d e hd he
      match i, hd, he with
      | 0, hd, he => cases hd; cases he; exact ⟨_, tgd_name, evd_call (evds_cons (evd_call (evds_cons (evd_var rfl) (evds_cons (evd_var rfl) evds_nil)) (c_sheet (sheet_ok m4 c.hr c.tr))) evds_nil) (sheet r c.hr c.tr)⟩
      | 1, hd, he => cases hd; cases he; exact ⟨_, tgd_name, evd_call (evds_cons (evd_call (evds_cons (evd_var rfl) (evds_cons (evd_var rfl) evds_nil)) (c_sheet (sheet_ok m4 c.hs c.ts))) evds_nil) (sheet s c.hs c.ts)⟩
      | _ + 2, hd, he => cases hd
    have okT : okD (.list [tft t1, tft t2]) = true := by
      show (true && (okD (tft t1) && (okD (tft t2) && true))) = true
      rw [ok_tft l1, ok_tft l2]; rfl
    have dpT : dep (.list [tft t1, tft t2]) ≤ 9 := by
      have a := dep_tft t1
      have b := dep_tft t2
      show max (dep (tft t1)) (max (dep (tft t2)) 0) + 1 ≤ 9
      omega
    refine std_seq (std_if (x := false) (ted_not (x := true) (ted_B (evd_call (evds_cons (evd_var rfl) (evds_cons dueE evds_nil)) (c_same dpT okT)))) (fun h => by cases h) fun _ => std_next) ?_
    have hsm : SmR (restR r s) := (rest_qs c.hr c.hs).sm (by decide)
    have lrest : (restR r s).length ≤ 60 := (rest_qs c.hr c.hs).1
    have noW : isNo (optW (pword (restR r s))) = g := by
      have w := c.word
      show _ = decide (restR r s = [])
      cases hp : pword (restR r s) with
      | none =>
        rw [hp] at w
        cases hb : decide (restR r s = []) with
        | true => rfl
        | false => rw [hb] at w; cases w
      | some u =>
        rw [hp] at w
        cases hb : decide (restR r s = []) with
        | true => rw [hb] at w; cases w
        | false => rfl
    obtain ⟨dr, rf, hd⟩ := run_for m4 c.hr c.hs
    have noR : isNo dr = g := by
      show _ = decide (restR r s = [])
      rcases hd with ⟨h, rfl⟩ | ⟨h, xs, rfl⟩
      · rw [decide_eq_true h]; rfl
      · rw [decide_eq_false h]; rfl
    let tabsS : Sl := .dat (.list [tft t1, tft t2])
    let restS : Sl := .dat (rw_ (restR r s))
    let gS : Sl := .dat (.bool g)
    refine std_seq (ρ1 := ρ restS gS tabsS (.dat (.list [.bool g, .bool g, .bool g])) .any .any) (std_asg (i := 6) (evf_lst (ds := [.bool g, .bool g, .bool g]) (evds_cons (EvD.is (evd_op (evd_op (evd_var (i := 5) rfl) evd_int (ix_lstD (c := tft t1) rfl)) (evd_op (evd_var (i := 5) rfl) evd_int (ix_lstD (c := tft t2) rfl)) (eq_D (tft_shaped _) (tft_shaped _))) (congrArg PyData.bool ((tft_eqv _ _).trans c.tabs))) (evds_cons (EvD.is (evd_call (ρ2 restS gS tabsS .any .any .any) (c_sameW hr hs hN)) (congrArg PyData.bool c.same)) (evds_cons (EvD.is (evd_isN (evd_call (ρ2 restS gS tabsS .any .any .any) (c_pword hr hs hl60 hN c.pw))) (congrArg PyData.bool noW)) evds_nil))) (Nat.le_of_ble_eq_true rfl)).ev) ?_
    have jq := join_q hr hs hl60
    have tl := turn_len s
    refine std_seq (ρ1 := ρ restS gS tabsS (.dat (.list [.bool g, .bool g, .bool g, .bool g, rw_ (restR r s)])) .any .any) (std_asg (i := 6) (EvD.is (evd_op (evd_var (i := 6) rfl) (evf_lst (ds := [.bool g, rw_ (restR r s)]) (evds_cons (EvD.is (evd_isN (evd_call (ρ2 restS gS tabsS _ .any .any) (c_run hr hs (by have := c.hl; omega) hN rf))) (congrArg PyData.bool noR)) (evds_cons (evd_call (evds_cons (EvD.is (evd_op (evd_var (i := 0) rfl) (evd_call (evds_cons (evd_var (i := 1) rfl) evds_nil) (c_turnedL (by omega) (hs.sm (by decide)))) (plus_tup (by simp; omega))) (show PyData.tuple (r.map pr ++ (turnR s).map pr) = rw_ (r ++ turnR s) by rw [← List.map_append])) evds_nil) (c_normal jq hN)) evds_nil)) (Nat.le_of_ble_eq_true rfl)).ev (plus_lst (by simp))) rfl)) ?_
    have okG : okD (.list [.bool g, .bool g, .bool g, .bool g, rw_ (restR r s)]) = true := by
      show (true && (true && (true && (true && (true && (okD (rw_ (restR r s)) && true)))))) = true
      rw [ok_row (by omega)]; rfl
    have dpG : dep (.list [.bool g, .bool g, .bool g, .bool g, rw_ (restR r s)]) ≤ 9 := by
      have a := dep_row (restR r s)
      show max 0 (max 0 (max 0 (max 0 (max (dep (rw_ (restR r s))) 0)))) + 1 ≤ 9
      omega
    refine std_seq (std_if (x := false) (ted_not (x := true) (ted_B (evd_call (evds_cons (evd_var (i := 6) rfl) (evds_cons (EvD.is (evd_op (evd_op (evf_lst (ds := [.bool g]) (evds_cons (evd_var (i := 4) rfl) evds_nil) (Nat.le_of_ble_eq_true rfl)).ev (evd_int (i := 4)) (times_lstF (by decide) (by decide) (Nat.le_of_ble_eq_true rfl)).ev) (evf_lst (ds := [rw_ (restR r s)]) (evds_cons (evd_var (i := 3) rfl) evds_nil) (Nat.le_of_ble_eq_true rfl)).ev (plus_lst (by simp))) rfl) evds_nil)) (c_same dpG okG)))) (fun h => by cases h) fun _ => std_next) ?_
    by_cases hm : 2 < m
    · exact std_seqR (std_if (x := true) (TeD.is (ted_test (evd_op (evd_var (i := 2) rfl) evd_int gt_intD)) (decide_eq_true (by omega))) (fun _ => std_ret evd_bl) fun h => by cases h)
    refine std_seq (std_if (x := false) (TeD.is (ted_test (evd_op (evd_var (i := 2) rfl) evd_int gt_intD)) (decide_eq_false (by omega))) (fun h => by cases h) fun _ => std_next) ?_
    obtain rfl : m = 2 := by have := c.m2; omega
    let miS : Sl := .dat (.list [.bool g, .bool g, .bool g, .bool g, rw_ (restR r s)])
    refine std_seq (ρ1 := ρ restS gS tabsS miS (.dat (fr (stepQ (restR r s)))) .any) (std_asg (evd_call (ρ2 restS gS tabsS miS .any .any) (c_step hr hs hl60 hN))) ?_
    by_cases hz : restR r s = []
    · have eg : g = true := decide_eq_true hz
      obtain ⟨ok53, b53⟩ := c.shut hz
      refine std_seqR (std_if (x := true) (TeD.is (ted_B (evd_var (i := 4) rfl)) eg) (fun _ => std_ret ?_) fun h => by cases h)
      have n53 : ((5 : Rat) / 3).num = 5 := by decide +kernel
      have d53 : ((5 : Rat) / 3).den = 3 := by decide +kernel
      have e53 : fr ((5 : Rat) / 3) = .tuple [.int 5, .int 3] := by
        unfold fr
        rw [n53, d53]; rfl
      have e1 : stepQ (restR r s) = 1 := by rw [hz]; rfl
      refine evd_call (evds_cons (evf_lst (ds := [fr 1, .bool true]) (evds_cons (EvD.is (evd_var (i := 7) rfl) (congrArg fr e1)) (evds_cons (EvD.is (evd_call (evds_cons (evd_var (i := 0) rfl) (evds_cons (evd_var (i := 1) rfl) (evds_cons (EvD.is (evd_tup (evds_cons evd_int (evds_cons evd_int evds_nil)) (Nat.le_of_ble_eq_true rfl)) e53.symm) evds_nil))) (c_sprs ok53)) (congrArg PyData.bool b53)) evds_nil)) (Nat.le_of_ble_eq_true rfl)).ev (evds_cons (evf_lst (ds := [fr 1, .bool true]) (evds_cons (evd_tup (evds_cons evd_int (evds_cons evd_int evds_nil)) (Nat.le_of_ble_eq_true rfl)) (evds_cons evd_bl evds_nil)) (Nat.le_of_ble_eq_true rfl)).ev evds_nil)) (c_same (by decide +kernel) (by decide +kernel))
    have eg : g = false := decide_eq_false hz
    refine std_seq (std_if (x := false) (TeD.is (ted_B (evd_var (i := 4) rfl)) eg) (fun h => by cases h) fun _ => std_next) ?_
    obtain ⟨⟨ok1, f1⟩, ok3, f3⟩ := c.open2 hz
    obtain ⟨⟨ee, ee0, eeM, bq1, _⟩, _⟩ := step_facts hz (rest_red r s) (rest_qs c.hr c.hs).2
    have stS : Sm 4000 (stepQ (restR r s)) := bq1.sm ee0 (p4000 (by omega)) (p4000 (by decide))
    have hnz := red_nz (rest_red r s)
    have lstep := least_step hz
    obtain ⟨p0, hp0, ep0⟩ := leastR_in hz
    let stSl : Sl := .dat (fr (stepQ (restR r s)))
    let σ : Rat → Sl → Sl → List Sl := fun l a b => [.dat (rw_ r), .dat (rw_ s), .dat (.int ((2 : Nat) : Int)), restS, gS, tabsS, miS, stSl, .dat (fr l), a, b, .any]
    obtain ⟨p, u, ept⟩ : ∃ p u, restR r s = p :: u := by
      cases h : restR r s with
      | nil => exact absurd h hz
      | cons p u => exact ⟨p, u, rfl⟩
    have hpm : p ∈ restR r s := by rw [ept]; exact .head _
    have at0 : atI ((restR r s).map pr) 0 = some (pr p) := by rw [ept]; exact at_nat (k := 0) rfl
    refine std_seq (ρ1 := σ p.2 .any .any) (std_asg (i := 8) (d := fr p.2) (evd_op (evd_op (evd_var (i := 3) rfl) evd_int (ix_tupD at0)) evd_int (ix_tupD rfl))) ?_
    let ρs : Nat → List Sl := fun i => σ (((restR r s).take i).foldl leastL p.2) .any .any
    have fin : ρs ((restR r s).map pr).length = σ (leastR (restR r s)) .any .any := by
      show σ (((restR r s).take ((restR r s).map pr).length).foldl leastL p.2) .any .any = _
      rw [List.length_map, List.take_length, ept]; rfl
    refine std_seq (ρ1 := ρs ((restR r s).map pr).length) (std_for (js := [9, 10]) ρs (itd_T (ds := (restR r s).map pr) (evd_var (i := 3) rfl)) fun i d hd => ?_) ?_
    · rw [List.getElem?_map] at hd
      cases hq2 : (restR r s)[i]? with
      | none => rw [hq2] at hd; cases hd
      | some q =>
        rw [hq2] at hd
        cases hd
        have sq := hsm q (mem_get hq2)
        have sl : Sm 4000 (((restR r s).take i).foldl leastL p.2) := by
          rcases least_in ((restR r s).take i) p.2 with e | ⟨q', hq', e⟩
          · rw [e]; exact hsm p hpm
          · rw [e]; exact hsm q' (List.mem_of_mem_take hq')
        have en : ((restR r s).take (i + 1)).foldl leastL p.2 = leastL (((restR r s).take i).foldl leastL p.2) q := by
          rw [List.take_add_one, hq2, List.foldl_append]; rfl
        refine ⟨_, tgd_tup2 tgd_name tgd_name, ?_⟩
        have goal : ∀ l : Rat, Sm 4000 l → StD T K (tAsg (tIf (tTest (tOp (rI0 fun i j => V.bl (decide (i < j)))
                                          (tOp (rTimes K)
                                            (tCB (fun xs H Q => ∃ i, xs = [V.int i] ∧ Q (V.int (if i < 0 then -i else i)) H)
                                              (tCons (tOp (rIx K) (tVar 10) (tC (V.int 0))) tNil))
                                            (tOp (rIx K) (tVar 8) (tC (V.int 1))))
                                          (tOp (rTimes K)
                                            (tCB (fun xs H Q => ∃ i, xs = [V.int i] ∧ Q (V.int (if i < 0 then -i else i)) H)
                                              (tCons (tOp (rIx K) (tVar 8) (tC (V.int 0))) tNil))
                                            (tOp (rIx K) (tVar 10) (tC (V.int 1)))))) (tVar 10) (tVar 8)) (gName 8)) (σ l (.dat (.int q.1)) (.dat (fr q.2))) (.nx (σ (leastL l q) (.dat (.int q.1)) (.dat (fr q.2)))) := fun l hl => by
          have s1 : CMulX (q.2.num.natAbs : Int) l.den := sm_mul (i := (q.2.num.natAbs : Int)) (by have := sq.1; simpa using this) (by have := hl.2; simpa using this)
          have s2 : CMulX (l.num.natAbs : Int) q.2.den := sm_mul (i := (l.num.natAbs : Int)) (by have := hl.1; simpa using this) (by have := sq.2; simpa using this)
          have et : decide ((q.2.num.natAbs : Int) * l.den < (l.num.natAbs : Int) * q.2.den) = decide (q.2.abs < l.abs) := by
            refine decide_eq_decide.mpr ?_
            rw [Rat.lt_iff, abs_num, abs_num, abs_den, abs_den]
          refine std_asg (evd_if (x := decide (q.2.abs < l.abs)) (TeD.is (ted_test (evd_op (evd_op (evd_cb (evds_cons (evd_op (evd_var (i := 10) rfl) evd_int (ix_tupD rfl)) evds_nil) abs_D) (evd_op (evd_var (i := 8) rfl) evd_int (ix_tupD rfl)) (times_int s1)) (evd_op (evd_cb (evds_cons (evd_op (evd_var (i := 8) rfl) evd_int (ix_tupD rfl)) evds_nil) abs_D) (evd_op (evd_var (i := 10) rfl) evd_int (ix_tupD rfl)) (times_int s2)) lt_intD)) et) (fun h => ?_) fun h => ?_)
          · have e : leastL l q = q.2 := if_pos (of_decide_eq_true h)
            rw [e]
            exact evd_var (i := 10) rfl
          · have e : leastL l q = l := if_neg (of_decide_eq_false h)
            rw [e]
            exact evd_var (i := 8) rfl
        refine std_weakN (goal _ sl) rfl ?_
        show ∀ (j : Nat) (s_1 : Sl), (σ (((restR r s).take (i + 1)).foldl leastL p.2) .any .any)[j]? = some s_1 → _
        rw [en]
        intro j s1 hj
        match j, hj with
        | 0, h => exact .inr h
        | 1, h => exact .inr h
        | 2, h => exact .inr h
        | 3, h => exact .inr h
        | 4, h => exact .inr h
        | 5, h => exact .inr h
        | 6, h => exact .inr h
        | 7, h => exact .inr h
        | 8, h => exact .inr h
        | 9, h => exact .inl (Option.some.inj h).symm
        | 10, h => exact .inl (Option.some.inj h).symm
        | 11, h => exact .inl (Option.some.inj h).symm
        | _ + 12, h => cases h
    · rw [fin]
      have sL : Sm 4000 (leastR (restR r s)) := by rw [ep0]; exact hsm p0 hp0
      have nL : leastR (restR r s) ≠ 0 := by rw [ep0]; exact hnz p0 hp0
      have m3 : CMulX (stepQ (restR r s)).num 3 := sm_mul (a := 4000) (b := 2) stS.1 (by decide)
      have m2' : CMulX 2 ((leastR (restR r s)).den : Int) := sm_mul (a := 2) (b := 4000) (by decide) (by have := sL.2; simpa using this)
      have lt8002 : 2 ^ 4000 ≤ 2 ^ 8002 := Nat.pow_le_pow_right (by decide) (by decide)
      have den0 : ((stepQ (restR r s)).den : Int) ≠ 0 := by have := (stepQ (restR r s)).den_nz; omega
      have num0 : (((leastR (restR r s)).num.natAbs : Nat) : Int) ≠ 0 := by
        have hn : (leastR (restR r s)).num ≠ 0 := fun z => nL (num_zero.mp z)
        omega
      let σ6 : List Sl := [.dat (rw_ r), .dat (rw_ s), .dat (.int ((2 : Nat) : Int)), restS, gS, tabsS, .dat (.list [fr (stepQ (restR r s)), .bool false, .bool false]), stSl, .dat (fr (leastR (restR r s))), .any, .any, .any]
      refine std_seq (ρ1 := σ6) (std_asg (i := 6) (evf_lst (ds := [fr (stepQ (restR r s)), .bool false, .bool false]) (evds_cons (evd_var (i := 7) rfl) (evds_cons (EvD.is (evd_call (evds_cons (evd_var (i := 0) rfl) (evds_cons (evd_var (i := 1) rfl) (evds_cons (evd_var (i := 7) rfl) evds_nil))) (c_sprs ok1)) (congrArg PyData.bool f1)) (evds_cons (EvD.is (evd_call (evds_cons (evd_var (i := 0) rfl) (evds_cons (evd_var (i := 1) rfl) (evds_cons (EvD.is (evd_call (evds_cons (evd_op (evd_op (evd_var (i := 7) rfl) evd_int (ix_tupD rfl)) evd_int (times_int m3)) (evds_cons (evd_op (evd_var (i := 7) rfl) evd_int (ix_tupD rfl)) evds_nil)) (c_low den0 (Nat.lt_of_lt_of_le (by have := stS.2; simpa using this) lt8002))) (congrArg fr (step3 _))) evds_nil))) (c_sprs ok3)) (congrArg PyData.bool f3)) evds_nil))) (Nat.le_of_ble_eq_true rfl)).ev) ?_
      refine std_ret (evd_call (evds_cons (evd_var (i := 6) rfl) (evds_cons (evf_lst (ds := [fr (stepQ (restR r s)), .bool false, .bool false]) (evds_cons (EvD.is (evd_call (evds_cons (evd_op evd_int (evd_op (evd_var (i := 8) rfl) evd_int (ix_tupD rfl)) (times_int m2')) (evds_cons (evd_cb (evds_cons (evd_op (evd_var (i := 8) rfl) evd_int (ix_tupD rfl)) evds_nil) abs_D) evds_nil)) (c_low num0 (Nat.lt_of_lt_of_le (by have := sL.1; simpa using this) lt8002))) (congrArg fr lstep)) (evds_cons evd_bl (evds_cons evd_bl evds_nil))) (Nat.le_of_ble_eq_true rfl)).ev evds_nil)) (c_same ?_ ?_))
      · show max 1 (max 0 (max 0 0)) + 1 ≤ 9
        decide
      · rfl
theorem c_case {r s : Row} {m : Nat} (c : CaseOk m r s) : fCase [rw_ r, rw_ s, .int m] (.bool true) := ⟨r, s, m, rfl, c, rfl⟩
end
end K37
namespace K37
open PySem
/-! ### the rows by hand -/
def wheel3 : Row := [(0, 1), (1, -1), (0, 1)]
def wheel : Row := wheel3 ++ (wheel3 ++ (wheel3 ++ wheel3))
def ring : Row := [(0, 1), (2, 2), (3, 1 / 2), (2, -2), (0, -1), (3, -1 / 2)]
def ring2 : Row := ring.take 2 ++ [(3, 1 / 3), (3, 1 / 6)] ++ ring.drop 3
def rowsB (m N : Nat) (r : Row) : Bool := decide (r.length ≤ 30) && r.all fun p => decide (0 ≤ p.1) && decide (p.1 < m) && decide ((6 * p.2).den = 1) && decide ((6 * p.2).num.natAbs ≤ N)
theorem rows_of {m N : Nat} {r : Row} (h : rowsB m N r = true) : RowS m N r := by
  unfold rowsB at h
  rw [Bool.and_eq_true, List.all_eq_true] at h
  have key : ∀ p ∈ r, ((0 ≤ p.1 ∧ p.1 < m) ∧ (6 * p.2).den = 1) ∧ (6 * p.2).num.natAbs ≤ N := fun p hp => by
    have := h.2 p hp
    rw [Bool.and_eq_true, Bool.and_eq_true, Bool.and_eq_true] at this
    exact ⟨⟨⟨of_decide_eq_true this.1.1.1, of_decide_eq_true this.1.1.2⟩, of_decide_eq_true this.1.2⟩, of_decide_eq_true this.2⟩
  refine ⟨of_decide_eq_true h.1, fun p hp => (key p hp).1.1, fun p hp => ⟨(6 * p.2).num, ?_, (key p hp).2⟩⟩
  have hd := (key p hp).1.2
  have e : 6 * p.2 = ((6 * p.2).num : Rat) := by
    conv => lhs; rw [← Rat.num_divInt_den (6 * p.2), hd]
    rw [Rat.divInt_eq_div]
    show ((6 * p.2).num : Rat) / 1 = _
    grind
  rw [Rat.divInt_eq_div, ← e]
  show p.2 = 6 * p.2 / 6
  grind
theorem rs_wheel3 : RowS 2 18 wheel3 := rows_of (by decide +kernel)
theorem rs_wheel : RowS 2 18 wheel := rows_of (by decide +kernel)
theorem rs_nil {m N : Nat} : RowS m N [] := ⟨Nat.zero_le _, fun p h => (nomatch h), fun p h => (nomatch h)⟩
theorem rs_ring : RowS 4 18 ring := rows_of (by decide +kernel)
theorem rs_ring2 : RowS 4 18 ring2 := rows_of (by decide +kernel)
theorem rs_ringo : RowS 4 18 (ring ++ [(3, 0)]) := rows_of (by decide +kernel)
theorem rs_ring5 : RowS 4 18 (ring.take 5) := rows_of (by decide +kernel)
theorem rs_ring4 : RowS 4 18 (ring.take 4 ++ [(1, -1)]) := rows_of (by decide +kernel)
theorem rs_ring1 : RowS 4 18 (ring.drop 1) := rows_of (by decide +kernel)
theorem rs_wheel6 : RowS 2 18 (wheel.take 6) := rows_of (by decide +kernel)
theorem w_one : act (flowE spr 1) wheel3 e1 = (0, -1) ∧ act (flowE spr 1) wheel3 e2 = (1, 0) := by decide +kernel
theorem w_spr : sprB 1 wheel [] = true ∧ sprB 2 wheel [] = false := by decide +kernel
theorem w_flow : decide (act (flowE spr 1) wheel e1 ≠ act (flowE spr 1) [] e1) = false := by decide +kernel
theorem w_step : stepQ (restR wheel []) = 2 := by decide +kernel
theorem w_rest : restR wheel [] ≠ [] ∧ restR [(0, 1)] [] ≠ [] ∧ restR [(1, 1)] [] ≠ [] := by decide +kernel
theorem r_rest : restR ring (ring ++ [(3, 0)]) = [] ∧ restR ring ring2 = [] := by decide +kernel
theorem r_same : decide (nf ring = nf (ring.drop 1)) = false := by decide +kernel
theorem lyn21 : lynS ((2 : Nat) : Int) 1 = [[0], [1]] := by
  have e : genL ((2 : Nat) : Int) 1 900 [0] = [[0], [1]] := by decide +kernel
  unfold lynS
  rw [e]
  exact List.mergeSort_of_pairwise (by decide +kernel)
theorem lyn31 : lynS ((3 : Nat) : Int) 1 = [[0], [1], [2]] := by
  have e : genL ((3 : Nat) : Int) 1 900 [0] = [[0], [1], [2]] := by decide +kernel
  unfold lynS
  rw [e]
  exact List.mergeSort_of_pairwise (by decide +kernel)
theorem pword_one {t : Row} {u : List Int} (h : tryN t 1 = some u) : pword t = some u := by
  unfold pword
  obtain ⟨n, hn⟩ : ∃ n, topOf t = n + 1 := ⟨topOf t - 1, by have : 1 ≤ topOf t := Nat.le_max_left _ _
                                                            omega⟩
  rw [hn, List.range_succ_eq_map, List.findSome?_cons]
  have h2 : tryN t (0 + 1) = some u := h
  simp only [h2]
theorem w_word : pword (restR wheel []) = some [0] := by
  refine pword_one ?_
  have e : manyOf (restR wheel []) = 2 := by decide +kernel
  unfold tryN
  rw [e, lyn21]
  decide +kernel
theorem n_word : pword [] = none := by decide +kernel
theorem r_word : pword (restR ring (ring.take 5)) = some [3] := by
  refine pword_one ?_
  have e : manyOf (restR ring (ring.take 5)) = 3 := by decide +kernel
  unfold tryN
  rw [e, lyn31]
  decide +kernel
theorem pw_by {r s : Row} {m : Nat} (hr : RowS m 18 r) (hs : RowS m 18 s) (h : (restR r s).length ≤ 30) (hk : (manyOf (restR r s) ≤ 3 ∧ topOf (restR r s) ≤ 6) ∨ (manyOf (restR r s) ≤ 4 ∧ topOf (restR r s) ≤ 5)) : PwOk (restR r s) :=
  pw_ok (M := 18 * 60) (by decide) (by decide) h (rest_qs hr hs).2 hk
theorem pw_wheel : PwOk (restR wheel []) := pw_by rs_wheel rs_nil (by decide +kernel) (.inl (by decide +kernel))
theorem pw_ring2 : PwOk (restR ring ring2) := pw_by rs_ring rs_ring2 (by decide +kernel) (.inl (by decide +kernel))
theorem pw_ring5 : PwOk (restR ring (ring.take 5)) := pw_by rs_ring rs_ring5 (by decide +kernel) (.inl (by decide +kernel))
theorem word_by {t : Row} {i : Nat} {u ls : List Int} (hn : i < topOf t) (hl : ls ∈ genL (manyOf t : Nat) (i + 1) 900 [0]) (hu : wordOf (partsI t) ls = u) (e : u.length = i + 1) (hw : (worth t u).getD u.length 0 ≠ 0) : (pword t).isSome = !decide (t = []) := by
  have h := hit_of (n := 0) hn (List.mem_mergeSort.mpr hl) hu e hw
  rw [h]
  have : t ≠ [] := fun z => by
    rw [z, n_word] at h
    cases h
  rw [decide_eq_false this]; rfl
theorem case_wheel : CaseOk 2 (wheel.take 6) (wheel.take 3) := by
  have h3 : RowS 2 18 (wheel.take 3) := rows_of (by decide +kernel)
  exact ⟨by decide, by decide, rs_wheel6, h3, by decide +kernel, pw_by rs_wheel6 h3 (by decide +kernel) (.inl (by decide +kernel)), word_by (u := [0]) (ls := [0]) (i := 0) (by decide +kernel) (by decide +kernel) (by decide +kernel) rfl (by decide +kernel)⟩
theorem case_ring : CaseOk 4 (ring.take 5) (ring.take 4 ++ [(1, -1)]) :=
  ⟨by decide, by decide, rs_ring5, rs_ring4, by decide +kernel, pw_by rs_ring5 rs_ring4 (by decide +kernel) (.inr (by decide +kernel)), word_by (u := [0]) (ls := [0]) (i := 0) (by decide +kernel) (by decide +kernel) (by decide +kernel) rfl (by decide +kernel)⟩
end K37
namespace K37
open PySem PySem.Spec L2
local macro_rules | `(tactic| walk_at "sz") => `(tactic| first | assumption | decide | omega)
local macro_rules | `(tactic| walk_at "call") => `(tactic| fail "no call")
local macro_rules | `(tactic| walk_at "cb") => `(tactic| first
  | with_reducible exact gcd_D | with_reducible exact len_T | with_reducible exact len_L | with_reducible exact tuple_L | with_reducible exact tuple_T | with_reducible exact max_D | with_reducible exact min_D | with_reducible exact abs_D
  | with_reducible exact int_D | with_reducible exact int_B)
local macro_rules | `(tactic| walk_at "op") => `(tactic| first
  | with_reducible exact minus_int | with_reducible exact plus_int | ((with_reducible apply times_int); walk_at "sz") | ((with_reducible apply ix_tupD); exact rfl) | ((with_reducible apply ix_lstD); exact rfl)
  | with_reducible exact lt_intD | with_reducible exact le_intD | with_reducible exact gt_intD | with_reducible exact ge_intD
  | ((with_reducible apply eq_D) <;> first | exact rfl | exact fr_shaped _ | assumption) | ((with_reducible apply ne_D) <;> first | exact rfl | exact fr_shaped _ | assumption)
  | ((with_reducible apply fdiv_int); walk_at "sz") | ((with_reducible apply fmod_int); walk_at "sz")
  | ((with_reducible apply plus_tup); walk_at "sz") | ((with_reducible apply plus_lst); walk_at "sz"))
local macro_rules | `(tactic| walk_at "evs") => `(tactic| first
  | with_reducible exact evds_nil
  | ((with_reducible apply evds_cons); (· walk_at "ev"); (· walk_at "evs")))
local macro_rules | `(tactic| walk_at "ev") => `(tactic| first
  | assumption
  | ((with_reducible apply evd_var); exact rfl)
  | with_reducible exact evd_int | with_reducible exact evd_cst | with_reducible exact evd_non | with_reducible exact evd_bl
  | ((with_reducible apply evd_op); (· walk_at "ev"); (· walk_at "ev"); (· walk_at "op"))
  | ((with_reducible apply evd_un); (· walk_at "ev"); (· with_reducible exact neg_intD))
  | ((with_reducible apply evd_call); (· walk_at "evs"); (· walk_at "call"))
  | ((with_reducible apply evd_cb); (· walk_at "evs"); (· walk_at "cb"))
  | ((with_reducible apply evd_tup); (· walk_at "evs"); (· exact Nat.le_of_ble_eq_true rfl))
  | ((with_reducible apply evd_isN); walk_at "ev") | ((with_reducible apply evd_notN); walk_at "ev")
  | ((with_reducible apply evd_not); walk_at "ev"))
local macro_rules | `(tactic| walk_at "te") => `(tactic| first
  | ((with_reducible apply ted_test); walk_at "ev") | ((with_reducible apply ted_B); walk_at "ev") | ((with_reducible apply ted_not); walk_at "te"))

def fBrk (ds : List PyData) (d : PyData) : Prop := ∃ r s : Row, ds = [rw_ r, rw_ s] ∧ r.length ≤ 100 ∧ s.length ≤ 100 ∧ SmR r ∧ SmR s ∧ d = rw_ (brk r s)
def fHand (ds : List PyData) (d : PyData) : Prop := ds = [] ∧ d = .bool true
theorem fr_lit (q : Rat) (a : Int) (b : Nat) (h1 : q.num = a) (h2 : q.den = b) : fr q = .tuple [.int a, .int (b : Int)] := by
  unfold fr
  rw [h1, h2]
theorem fr_m1 : fr (-1) = .tuple [.int (-1), .int 1] := fr_lit _ (-1) 1 (by decide +kernel) (by decide +kernel)
theorem fr_2 : fr 2 = .tuple [.int 2, .int 1] := fr_lit _ 2 1 (by decide +kernel) (by decide +kernel)
theorem fr_12 : fr (1 / 2) = .tuple [.int 1, .int 2] := fr_lit _ 1 2 (by decide +kernel) (by decide +kernel)
theorem fr_13 : fr (1 / 3) = .tuple [.int 1, .int 3] := fr_lit _ 1 3 (by decide +kernel) (by decide +kernel)
theorem fr_16 : fr (1 / 6) = .tuple [.int 1, .int 6] := fr_lit _ 1 6 (by decide +kernel) (by decide +kernel)
theorem ring_brk : brk [(0, 1), (2, 2)] [(3, 1 / 2)] = ring := by decide +kernel
def handX : PyData := .list [vt (0, -1), vt (1, 0), .bool true, .bool false, fr 2, intsV [0], .bool false, .bool false, .bool false, .bool false, .none, .none, intsV [3], .bool false]
theorem handX_ok : dep handX ≤ 9 ∧ okD handX = true := by decide +kernel
theorem sm_row {m : Nat} {r : Row} (h : RowS m 18 r) : SmR r := h.q.sm (by decide)
section
variable {P : Program} {w : World} {K : PySem.W.Frag} {mg : Str → Option Value} {base : Heap} {T : Tb}
theorem sc__law_bracket : FnScope ["_law_row_so", "_law_other_so"] ["_law_row_so", "_law_other_so"] (defScope (top 82)) := ⟨rfl, rfl, rfl, by decide +kernel, rfl, by decide +kernel, by decide +kernel⟩
theorem d_law_bracket (C : CT P w K mg base T) : Df P w K mg base "_law_bracket" 2 ["_law_row_so", "_law_other_so"] (spF T K fBrk) := by
  refine df_of C (i := 64) (x := "_law_bracket") (N := ["_law_row_so", "_law_other_so"]) (n := 0) rfl sc__law_bracket (fun _ _ _ _ _ _ us hl => match us, hl with | [_, _], _ => rfl) ?_ rfl fun cdv A outer s H E fa hr => ⟨_, (pss_one (ps_ret (pe_op (op_plusK K rfl) (pe_op (op_plusK K rfl) (pe_op (op_plusK K rfl) (pe_callTy (call_tupleK K rfl) (by rfl) (C.free 16 _ rfl) (by decide +kernel) (pa_cons (pv 0) pa_nil)) (pe_callTy (call_tupleK K rfl) (by rfl) (C.free 16 _ rfl) (by decide +kernel) (pa_cons (pv 1) pa_nil))) (pe_dfK (d_law_undone C) rfl rfl rfl rfl rfl hr (by rfl) (pa_cons (pv 0) pa_nil))) (pe_dfK (d_law_undone C) rfl rfl rfl rfl rfl hr (by rfl) (pa_cons (pv 1) pa_nil))))), ?_⟩
  · rintro _ _ ⟨r, s, rfl, lr, ls, hr, hs, rfl⟩
    rfl
  · rintro _ _ ⟨r, s, rfl, lr, ls, hr, hs, rfl⟩
    have t1 := turn_len r
    have t2 := turn_len s
    refine std_ret (EvD.is (evd_op (evd_op (evd_op (evd_cb (evds_cons (evd_var (i := 0) rfl) evds_nil) tuple_T) (evd_cb (evds_cons (evd_var (i := 1) rfl) evds_nil) tuple_T) (plus_tup (by simp; omega))) (evd_call (evds_cons (evd_var (i := 0) rfl) evds_nil) (c_undone (by omega) hr)) (plus_tup (by simp; omega))) (evd_call (evds_cons (evd_var (i := 1) rfl) evds_nil) (c_undone (by omega) hs)) (plus_tup (by simp; omega))) ?_)
    show PyData.tuple (((r.map pr ++ s.map pr) ++ (turnR r).map pr) ++ (turnR s).map pr) = rw_ (brk r s)
    unfold brk
    rw [← List.map_append, ← List.map_append, ← List.map_append]
theorem sc__law_by_hand_right : FnScope ["_law_wheel", "_law_mine", "_law_due", "_law_ring", "_law_i", "_law_o", "_law_two", "_law_less"] [] (defScope (top 92)) := ⟨rfl, rfl, rfl, by decide +kernel, rfl, by decide +kernel, by decide +kernel⟩
theorem d_law_by_hand_right (C : CT P w K mg base T) : Df P w K mg base "_law_by_hand_right" 16 [] (spF T K fHand) := by
  refine df_of C (i := 74) (x := "_law_by_hand_right") (N := ["_law_wheel", "_law_mine", "_law_due", "_law_ring", "_law_i", "_law_o", "_law_two", "_law_less"]) (n := 8) rfl sc__law_by_hand_right (fun _ _ _ _ _ _ us hl => match us, hl with | [], _ => rfl) ?_ rfl fun cdv A outer s H E fa hr => ⟨_, (pss_cons (ps_asg (pe_tup (pa_cons (pe_tup (pa_cons pe_int (pa_cons pe_int pa_nil))) (pa_cons (pe_tup (pa_cons pe_int (pa_cons pe_int pa_nil))) (pa_cons (pe_tup (pa_cons pe_int (pa_cons pe_int pa_nil))) (pa_cons (pe_tup (pa_cons (pe_un un_neg pe_int) (pa_cons pe_int pa_nil))) pa_nil))))) (pg_tupK K rfl (n := 4) rfl (pgs_cons (pg_name (i := 4) sc__law_by_hand_right.nd rfl (by first | exact Or.inl rfl | exact Or.inr rfl)) (pgs_cons (pg_name (i := 5) sc__law_by_hand_right.nd rfl (by first | exact Or.inl rfl | exact Or.inr rfl)) (pgs_cons (pg_name (i := 6) sc__law_by_hand_right.nd rfl (by first | exact Or.inl rfl | exact Or.inr rfl)) (pgs_cons (pg_name (i := 7) sc__law_by_hand_right.nd rfl (by first | exact Or.inl rfl | exact Or.inr rfl)) pgs_nil))))))
  (pss_cons (ps_set (i := 0) sc__law_by_hand_right.nd rfl (by first | exact Or.inl rfl | exact Or.inr rfl) (pe_op (op_timesK K rfl) (pe_tup (pa_cons (pe_tup (pa_cons pe_int (pa_cons (pv 4) pa_nil))) (pa_cons (pe_tup (pa_cons pe_int (pa_cons (pv 7) pa_nil))) (pa_cons (pe_tup (pa_cons pe_int (pa_cons (pv 4) pa_nil))) pa_nil)))) pe_int))
  (pss_cons (ps_set (i := 1) sc__law_by_hand_right.nd rfl (by first | exact Or.inl rfl | exact Or.inr rfl) (pe_lst (pa_cons (pe_dfK (d_flow_at C) rfl rfl rfl rfl rfl hr (by rfl) (pa_cons (pe_slice (sl_seqK K rfl) (pv 0) po_none (po_some pe_int)) (pa_cons (pe_dfK0 (d_spring_push C) rfl rfl rfl rfl rfl hr (by rfl)) (pa_cons (pv 4) (pa_cons (pe_tup (pa_cons (pv 4) (pa_cons (pv 5) pa_nil))) pa_nil))))) (pa_cons (pe_dfK (d_flow_at C) rfl rfl rfl rfl rfl hr (by rfl) (pa_cons (pe_slice (sl_seqK K rfl) (pv 0) po_none (po_some pe_int)) (pa_cons (pe_dfK0 (d_spring_push C) rfl rfl rfl rfl rfl hr (by rfl)) (pa_cons (pv 4) (pa_cons (pe_tup (pa_cons (pv 5) (pa_cons (pv 4) pa_nil))) pa_nil))))) pa_nil))))
  (pss_cons (ps_set (i := 2) sc__law_by_hand_right.nd rfl (by first | exact Or.inl rfl | exact Or.inr rfl) (pe_lst (pa_cons (pe_tup (pa_cons (pv 5) (pa_cons (pv 7) pa_nil))) (pa_cons (pe_tup (pa_cons (pv 4) (pa_cons (pv 5) pa_nil))) pa_nil))))
  (pss_cons (ps_set (i := 1) sc__law_by_hand_right.nd rfl (by first | exact Or.inl rfl | exact Or.inr rfl) (pe_op (op_plusK K rfl) (pv 1) (pe_lst (pa_cons (pe_dfK (d_law_spring_same C) rfl rfl rfl rfl rfl hr (by rfl) (pa_cons (pv 0) (pa_cons (pe_tup pa_nil) (pa_cons (pv 4) pa_nil)))) (pa_cons (pe_dfK (d_law_spring_same C) rfl rfl rfl rfl rfl hr (by rfl) (pa_cons (pv 0) (pa_cons (pe_tup pa_nil) (pa_cons (pv 6) pa_nil)))) (pa_cons (pe_dfK (d_one_step C) rfl rfl rfl rfl rfl hr (by rfl) (pa_cons (pv 0) (pa_cons (pe_tup pa_nil) pa_nil))) (pa_cons (pe_dfK (d_parting_word C) rfl rfl rfl rfl rfl hr (by rfl) (pa_cons (pv 0) (pa_cons (pe_tup pa_nil) pa_nil))) pa_nil)))))))
  (pss_cons (ps_set (i := 2) sc__law_by_hand_right.nd rfl (by first | exact Or.inl rfl | exact Or.inr rfl) (pe_op (op_plusK K rfl) (pv 2) (pe_lst (pa_cons pe_bl (pa_cons pe_bl (pa_cons (pv 6) (pa_cons (pe_tup (pa_cons pe_int pa_nil)) pa_nil)))))))
  (pss_cons (ps_set (i := 1) sc__law_by_hand_right.nd rfl (by first | exact Or.inl rfl | exact Or.inr rfl) (pe_op (op_plusK K rfl) (pv 1) (pe_lst (pa_cons (pe_dfK (d_is_parting_run C) rfl rfl rfl rfl rfl hr (by rfl) (pa_cons (pv 0) (pa_cons (pe_tup pa_nil) (pa_cons (pe_tup (pa_cons (pe_dfK0 (d_spring_push C) rfl rfl rfl rfl rfl hr (by rfl)) (pa_cons (pe_tup (pa_cons (pv 4) (pa_cons (pv 5) pa_nil))) (pa_cons (pv 4) pa_nil)))) pa_nil)))) (pa_cons (pe_cmp (pc_isN (pe_dfK (d_parting_run C) rfl rfl rfl rfl rfl hr (by rfl) (pa_cons (pv 0) (pa_cons (pe_tup pa_nil) pa_nil)))) rfl) pa_nil)))))
  (pss_cons (ps_set (i := 1) sc__law_by_hand_right.nd rfl (by first | exact Or.inl rfl | exact Or.inr rfl) (pe_op (op_plusK K rfl) (pv 1) (pe_lst (pa_cons (pe_cmp (pc_isN (pe_dfK (d_parting_run C) rfl rfl rfl rfl rfl hr (by rfl) (pa_cons (pe_tup (pa_cons (pe_tup (pa_cons pe_int (pa_cons (pv 4) pa_nil))) pa_nil)) (pa_cons (pe_tup pa_nil) pa_nil)))) rfl) (pa_cons (pe_cmp (pc_isN (pe_dfK (d_parting_run C) rfl rfl rfl rfl rfl hr (by rfl) (pa_cons (pe_tup (pa_cons (pe_tup (pa_cons pe_int (pa_cons (pv 4) pa_nil))) pa_nil)) (pa_cons (pe_tup pa_nil) pa_nil)))) rfl) pa_nil)))))
  (pss_cons (ps_set (i := 2) sc__law_by_hand_right.nd rfl (by first | exact Or.inl rfl | exact Or.inr rfl) (pe_op (op_plusK K rfl) (pv 2) (pe_lst (pa_cons pe_bl (pa_cons pe_bl (pa_cons pe_bl (pa_cons pe_bl pa_nil)))))))
  (pss_cons (ps_set (i := 3) sc__law_by_hand_right.nd rfl (by first | exact Or.inl rfl | exact Or.inr rfl) (pe_dfK (d_law_bracket C) rfl rfl rfl rfl rfl hr (by rfl) (pa_cons (pe_tup (pa_cons (pe_tup (pa_cons pe_int (pa_cons (pv 4) pa_nil))) (pa_cons (pe_tup (pa_cons pe_int (pa_cons (pv 6) pa_nil))) pa_nil))) (pa_cons (pe_tup (pa_cons (pe_tup (pa_cons pe_int (pa_cons (pe_tup (pa_cons pe_int (pa_cons pe_int pa_nil))) pa_nil))) pa_nil)) pa_nil))))
  (pss_cons (ps_set (i := 1) sc__law_by_hand_right.nd rfl (by first | exact Or.inl rfl | exact Or.inr rfl) (pe_op (op_plusK K rfl) (pv 1) (pe_lst (pa_cons (pe_dfK (d_parting_run C) rfl rfl rfl rfl rfl hr (by rfl) (pa_cons (pv 3) (pa_cons (pe_op (op_plusK K rfl) (pv 3) (pe_tup (pa_cons (pe_tup (pa_cons pe_int (pa_cons (pv 5) pa_nil))) pa_nil))) pa_nil))) (pa_cons (pe_dfK (d_parting_word C) rfl rfl rfl rfl rfl hr (by rfl) (pa_cons (pv 3) (pa_cons (pe_op (op_plusK K rfl) (pe_op (op_plusK K rfl) (pe_slice (sl_seqK K rfl) (pv 3) po_none (po_some pe_int)) (pe_tup (pa_cons (pe_tup (pa_cons pe_int (pa_cons (pe_tup (pa_cons pe_int (pa_cons pe_int pa_nil))) pa_nil))) (pa_cons (pe_tup (pa_cons pe_int (pa_cons (pe_tup (pa_cons pe_int (pa_cons pe_int pa_nil))) pa_nil))) pa_nil)))) (pe_slice (sl_seqK K rfl) (pv 3) (po_some pe_int) po_none)) pa_nil))) pa_nil)))))
  (pss_cons (ps_set (i := 1) sc__law_by_hand_right.nd rfl (by first | exact Or.inl rfl | exact Or.inr rfl) (pe_op (op_plusK K rfl) (pv 1) (pe_lst (pa_cons (pe_dfK (d_parting_word C) rfl rfl rfl rfl rfl hr (by rfl) (pa_cons (pv 3) (pa_cons (pe_slice (sl_seqK K rfl) (pv 3) po_none (po_some (pe_un un_neg pe_int))) pa_nil))) (pa_cons (pe_dfK (d_is_same C) rfl rfl rfl rfl rfl hr (by rfl) (pa_cons (pv 3) (pa_cons (pe_slice (sl_seqK K rfl) (pv 3) (po_some pe_int) po_none) pa_nil))) pa_nil)))))
  (pss_cons (ps_set (i := 2) sc__law_by_hand_right.nd rfl (by first | exact Or.inl rfl | exact Or.inr rfl) (pe_op (op_plusK K rfl) (pv 2) (pe_lst (pa_cons pe_non (pa_cons pe_non (pa_cons (pe_tup (pa_cons pe_int pa_nil)) (pa_cons pe_bl pa_nil)))))))
  (pss_cons (ps_if (pt_not (pt_val (pe_dfK (d_law_same C) rfl rfl rfl rfl rfl hr (by rfl) (pa_cons (pv 1) (pa_cons (pv 2) pa_nil))))) (pss_one (ps_ret pe_bl)) pss_nil)
  (pss_one (ps_ret (pe_and (pe_dfK (d_law_case_right C) rfl rfl rfl rfl rfl hr (by rfl) (pa_cons (pe_slice (sl_seqK K rfl) (pv 0) po_none (po_some pe_int)) (pa_cons (pe_slice (sl_seqK K rfl) (pv 0) po_none (po_some pe_int)) (pa_cons pe_int pa_nil)))) (pe_one (pe_dfK (d_law_case_right C) rfl rfl rfl rfl rfl hr (by rfl) (pa_cons (pe_slice (sl_seqK K rfl) (pv 3) po_none (po_some pe_int)) (pa_cons (pe_op (op_plusK K rfl) (pe_slice (sl_seqK K rfl) (pv 3) po_none (po_some pe_int)) (pe_tup (pa_cons (pe_tup (pa_cons pe_int (pa_cons (pv 7) pa_nil))) pa_nil))) (pa_cons pe_int pa_nil)))))))))))))))))))))), ?_⟩
  · rintro _ _ ⟨rfl, rfl⟩
    rfl
  · rintro _ _ ⟨rfl, rfl⟩
    let σ : Sl → Sl → Sl → Sl → List Sl := fun w m d r => [w, m, d, r, .dat (fr 1), .dat (fr 0), .dat (fr 2), .dat (fr (-1))]
    have lit : ∀ (a b : Int) (τ : List Sl), EvD T K (tTup (tCons (tC (V.int a)) (tCons (tC (V.int b)) tNil))) τ (.tuple [.int a, .int b]) := fun a b τ => evd_tup (evds_cons evd_int (evds_cons evd_int evds_nil)) (Nat.le_of_ble_eq_true rfl)
    refine std_seq (ρ1 := σ .any .any .any .any) (std_asgG (js := [4] ++ ([5] ++ ([6] ++ [7]))) (d := .tuple [fr 1, fr 0, fr 2, fr (-1)]) (evd_tup (evds_cons (lit 1 1 _) (evds_cons (lit 0 1 _) (evds_cons (EvD.is (lit 2 1 _) fr_2.symm) (evds_cons (EvD.is (evd_tup (evds_cons (evd_un evd_int neg_intD) (evds_cons evd_int evds_nil)) (Nat.le_of_ble_eq_true rfl)) fr_m1.symm) evds_nil)))) (Nat.le_of_ble_eq_true rfl)) (tgd_tup4 tgd_name tgd_name tgd_name tgd_name)) ?_
    have pairE : ∀ (a : Int) (j : Nat) (q : Rat) (τ : List Sl), τ[j]? = some (.dat (fr q)) → EvD T K (tTup (tCons (tC (V.int a)) (tCons (tVar j) tNil))) τ (pr (a, q)) := fun a j q τ h => evd_tup (evds_cons evd_int (evds_cons (evd_var h) evds_nil)) (Nat.le_of_ble_eq_true rfl)
    have vtE : ∀ (j k : Nat) (q u : Rat) (τ : List Sl), τ[j]? = some (.dat (fr q)) → τ[k]? = some (.dat (fr u)) → EvD T K (tTup (tCons (tVar j) (tCons (tVar k) tNil))) τ (vt (q, u)) := fun j k q u τ h g => evd_tup (evds_cons (evd_var h) (evds_cons (evd_var g) evds_nil)) (Nat.le_of_ble_eq_true rfl)
    have noE : ∀ τ : List Sl, EvD T K (tTup tNil) τ (rw_ []) := fun τ => evd_tup evds_nil (Nat.zero_le _)
    let wS : Sl := .dat (rw_ wheel)
    refine std_seq (ρ1 := σ wS .any .any .any) (std_asg (i := 0) (d := rw_ wheel) (EvD.is (evd_op (evd_tup (ds := [pr (0, 1), pr (1, -1), pr (0, 1)]) (evds_cons (pairE 0 4 1 _ rfl) (evds_cons (pairE 1 7 (-1) _ rfl) (evds_cons (pairE 0 4 1 _ rfl) evds_nil))) (Nat.le_of_ble_eq_true rfl)) (evd_int (i := 4)) (times_tup (by decide) (by decide) (by simp) (Nat.le_of_ble_eq_true rfl))) rfl)) ?_
    have b1 : Bq 1 1 (1 : Rat) := (Bq.int 1).mono (by decide)
    have b2 : Bq 1 2 (2 : Rat) := (Bq.int 2).mono (by decide)
    have fl : ∀ v, BV 1 1 v → FlowOk spr 1 wheel3 v := fun v hv => flow_ok (m := 2) (by decide) mats_spr mb_spr (by decide) rs_wheel3 (by decide) b1 (by decide) (by decide) (by decide) hv
    have w3 : ∀ m d r, EvD T K (tSl (rSl K) (tVar 0) tNoPart (tPart (tC (V.int 3)))) (σ wS m d r) (rw_ wheel3) := fun m d r => EvD.is (evd_slT (xs := wheel.map pr) (evd_var (i := 0) rfl) evo_none (evo_some (evd_int (i := 3)))) rfl
    refine std_seq (ρ1 := σ wS (.dat (.list [vt (0, -1), vt (1, 0)])) .any .any) (std_asg (i := 1) (evf_lst (ds := [vt (0, -1), vt (1, 0)]) (evds_cons (EvD.is (evd_call (evds_cons (w3 .any .any .any) (evds_cons (evd_call (E := E0) evds_nil c_spring) (evds_cons (evd_var (i := 4) rfl) (evds_cons (vtE 4 5 1 0 _ rfl rfl) evds_nil)))) (c_flow_at (fl e1 bv_e1))) (congrArg vt w_one.1)) (evds_cons (EvD.is (evd_call (evds_cons (w3 .any .any .any) (evds_cons (evd_call (E := E0) evds_nil c_spring) (evds_cons (evd_var (i := 4) rfl) (evds_cons (vtE 5 4 0 1 _ rfl rfl) evds_nil)))) (c_flow_at (fl e2 bv_e2))) (congrArg vt w_one.2)) evds_nil)) (Nat.le_of_ble_eq_true rfl)).ev) ?_
    refine std_seq (ρ1 := σ wS (.dat (.list [vt (0, -1), vt (1, 0)])) (.dat (.list [vt (0, -1), vt (1, 0)])) .any) (std_asg (i := 2) (evf_lst (ds := [vt (0, -1), vt (1, 0)]) (evds_cons (vtE 5 7 0 (-1) _ rfl rfl) (evds_cons (vtE 4 5 1 0 _ rfl rfl) evds_nil)) (Nat.le_of_ble_eq_true rfl)).ev) ?_
    have hN : 18 * 60 < 2 ^ 64 := by decide
    have qw := rs_wheel.q
    have qn : RowQ 18 [] := (rs_nil (m := 2)).q
    let x1 : List PyData := [vt (0, -1), vt (1, 0), .bool true, .bool false, fr 2, intsV [0]]
    let d1 : Sl := .dat (.list [vt (0, -1), vt (1, 0)])
    refine std_seq (ρ1 := σ wS (.dat (.list x1)) d1 .any) (std_asg (i := 1) (EvD.is (evd_op (evd_var (i := 1) rfl) (evf_lst (ds := [.bool true, .bool false, fr 2, intsV [0]]) (evds_cons (EvD.is (evd_call (evds_cons (evd_var (i := 0) rfl) (evds_cons (noE _) (evds_cons (evd_var (i := 4) rfl) evds_nil))) (c_sprs (run_spr rs_wheel rs_nil (by decide) b1 (by decide) (by decide)))) (congrArg PyData.bool w_spr.1)) (evds_cons (EvD.is (evd_call (evds_cons (evd_var (i := 0) rfl) (evds_cons (noE _) (evds_cons (evd_var (i := 6) rfl) evds_nil))) (c_sprs (run_spr rs_wheel rs_nil (by decide) b2 (by decide) (by decide)))) (congrArg PyData.bool w_spr.2)) (evds_cons (EvD.is (evd_call (evds_cons (evd_var (i := 0) rfl) (evds_cons (noE _) evds_nil)) (c_step qw qn (by decide) hN)) (congrArg fr w_step)) (evds_cons (EvD.is (evd_call (evds_cons (evd_var (i := 0) rfl) (evds_cons (noE _) evds_nil)) (c_pword qw qn (by decide) hN pw_wheel)) (congrArg optW w_word)) evds_nil)))) (Nat.le_of_ble_eq_true rfl)).ev (plus_lst (Nat.le_of_ble_eq_true rfl))) rfl)) ?_
    refine std_seq (ρ1 := σ wS (.dat (.list x1)) (.dat (.list x1)) .any) (std_asg (i := 2) (EvD.is (evd_op (evd_var (i := 2) rfl) (evf_lst (ds := [.bool true, .bool false, fr 2, intsV [0]]) (evds_cons evd_bl (evds_cons evd_bl (evds_cons (evd_var (i := 6) rfl) (evds_cons (evd_tup (ds := [.int 0]) (evds_cons evd_int evds_nil) (Nat.le_of_ble_eq_true rfl)) evds_nil)))) (Nat.le_of_ble_eq_true rfl)).ev (plus_lst (Nat.le_of_ble_eq_true rfl))) rfl)) ?_
    have someR : ∀ {m : Nat} {r s : Row}, m ≤ 4 → RowS m 18 r → RowS m 18 s → restR r s ≠ [] → ∃ d, RunFor r s d ∧ isNo d = false := fun hm hr hs hne => by
      obtain ⟨d, rf, hd⟩ := run_for hm hr hs
      refine ⟨d, rf, ?_⟩
      rcases hd with ⟨h, _⟩ | ⟨_, xs, rfl⟩
      · exact absurd h hne
      · rfl
    obtain ⟨dw, rfw, nw⟩ := someR (by decide) rs_wheel rs_nil w_rest.1
    have rs0 : RowS 2 18 [(0, 1)] := rows_of (by decide +kernel)
    have rs1 : RowS 2 18 [(1, 1)] := rows_of (by decide +kernel)
    obtain ⟨d0, rf0, n0⟩ := someR (by decide) rs0 rs_nil w_rest.2.1
    obtain ⟨d1', rf1, n1⟩ := someR (by decide) rs1 rs_nil w_rest.2.2
    have flw : FlowOk spr 1 wheel e1 := flow_ok (m := 2) (by decide) mats_spr mb_spr (by decide) rs_wheel (by decide) b1 (by decide) (by decide) (by decide) bv_e1
    have fln : FlowOk spr 1 [] e1 := flow_ok (m := 2) (N := 18) (by decide) mats_spr mb_spr (by decide) rs_nil (by decide) b1 (by decide) (by decide) (by decide) bv_e1
    have mmS : ∀ N ∈ spr, SmM 5 N ∧ mmM N N = ((0, 0), (0, 0)) := fun N hN => ⟨(mats_spr N hN).1, by
      have : ∀ N ∈ spr, mmM N N = ((0, 0), (0, 0)) := by decide +kernel
      exact this N hN⟩
    let x2 : List PyData := x1 ++ [.bool false, .bool false]
    refine std_seq (ρ1 := σ wS (.dat (.list x2)) (.dat (.list x1)) .any) (std_asg (i := 1) (evd_op (evd_var (i := 1) rfl) (evf_lst (ds := [.bool false, .bool false]) (evds_cons (EvD.is (evd_call (evds_cons (evd_var (i := 0) rfl) (evds_cons (noE _) (evds_cons (evd_tup (ds := [pt spr, vt e1, fr 1]) (evds_cons (evd_call (E := E0) evds_nil c_spring) (evds_cons (vtE 4 5 1 0 _ rfl rfl) (evds_cons (evd_var (i := 4) rfl) evds_nil))) (Nat.le_of_ble_eq_true rfl)) evds_nil))) ⟨wheel, [], spr, e1, 1, rfl, by decide, by decide, mmS, flw, fln, rfl⟩) (congrArg PyData.bool w_flow)) (evds_cons (EvD.is (evd_isN (evd_call (evds_cons (evd_var (i := 0) rfl) (evds_cons (noE _) evds_nil)) (c_run qw qn (by decide) hN rfw))) (congrArg PyData.bool nw)) evds_nil)) (Nat.le_of_ble_eq_true rfl)).ev (plus_lst (Nat.le_of_ble_eq_true rfl)))) ?_
    let x3 : List PyData := x2 ++ [.bool false, .bool false]
    refine std_seq (ρ1 := σ wS (.dat (.list x3)) (.dat (.list x1)) .any) (std_asg (i := 1) (evd_op (evd_var (i := 1) rfl) (evf_lst (ds := [.bool false, .bool false]) (evds_cons (EvD.is (evd_isN (evd_call (evds_cons (evd_tup (ds := [pr (0, 1)]) (evds_cons (pairE 0 4 1 _ rfl) evds_nil) (Nat.le_of_ble_eq_true rfl)) (evds_cons (noE _) evds_nil)) (c_run (r := [(0, 1)]) rs0.q qn (by decide) hN rf0))) (congrArg PyData.bool n0)) (evds_cons (EvD.is (evd_isN (evd_call (evds_cons (evd_tup (ds := [pr (1, 1)]) (evds_cons (pairE 1 4 1 _ rfl) evds_nil) (Nat.le_of_ble_eq_true rfl)) (evds_cons (noE _) evds_nil)) (c_run (r := [(1, 1)]) rs1.q qn (by decide) hN rf1))) (congrArg PyData.bool n1)) evds_nil)) (Nat.le_of_ble_eq_true rfl)).ev (plus_lst (Nat.le_of_ble_eq_true rfl)))) ?_
    refine std_seq (ρ1 := σ wS (.dat (.list x3)) (.dat (.list x3)) .any) (std_asg (i := 2) (EvD.is (evd_op (evd_var (i := 2) rfl) (evf_lst (ds := [.bool false, .bool false, .bool false, .bool false]) (evds_cons evd_bl (evds_cons evd_bl (evds_cons evd_bl (evds_cons evd_bl evds_nil)))) (Nat.le_of_ble_eq_true rfl)).ev (plus_lst (Nat.le_of_ble_eq_true rfl))) rfl)) ?_
    let rS : Sl := .dat (rw_ ring)
    have ra : RowS 4 18 [(0, 1), (2, 2)] := rows_of (by decide +kernel)
    have rb : RowS 4 18 [(3, 1 / 2)] := rows_of (by decide +kernel)
    refine std_seq (ρ1 := σ wS (.dat (.list x3)) (.dat (.list x3)) rS) (std_asg (i := 3) (EvD.is (evd_call (evds_cons (evd_tup (ds := [pr (0, 1), pr (2, 2)]) (evds_cons (pairE 0 4 1 _ rfl) (evds_cons (pairE 2 6 2 _ rfl) evds_nil)) (Nat.le_of_ble_eq_true rfl)) (evds_cons (evd_tup (ds := [pr (3, 1 / 2)]) (evds_cons (evd_tup (ds := [.int 3, fr (1 / 2)]) (evds_cons evd_int (evds_cons (EvD.is (lit 1 2 _) fr_12.symm) evds_nil)) (Nat.le_of_ble_eq_true rfl)) evds_nil) (Nat.le_of_ble_eq_true rfl)) evds_nil)) ⟨[(0, 1), (2, 2)], [(3, 1 / 2)], rfl, by decide, by decide, sm_row ra, sm_row rb, rfl⟩) (congrArg rw_ ring_brk))) ?_
    have qr := rs_ring.q
    let x4 : List PyData := x3 ++ [.none, .none]
    refine std_seq (ρ1 := σ wS (.dat (.list x4)) (.dat (.list x3)) rS) (std_asg (i := 1) (evd_op (evd_var (i := 1) rfl) (evf_lst (ds := [.none, .none]) (evds_cons (evd_call (evds_cons (evd_var (i := 3) rfl) (evds_cons (EvD.is (evd_op (evd_var (i := 3) rfl) (evd_tup (ds := [pr (3, 0)]) (evds_cons (pairE 3 5 0 _ rfl) evds_nil) (Nat.le_of_ble_eq_true rfl)) (plus_tup (Nat.le_of_ble_eq_true rfl))) (rfl : _ = rw_ (ring ++ [(3, 0)]))) evds_nil)) (c_run qr rs_ringo.q (by decide) hN (.inl ⟨r_rest.1, rfl⟩))) (evds_cons (EvD.is (evd_call (evds_cons (evd_var (i := 3) rfl) (evds_cons (EvD.is (evd_op (evd_op (evd_slT (xs := ring.map pr) (evd_var (i := 3) rfl) evo_none (evo_some (evd_int (i := 2)))) (evd_tup (ds := [pr (3, 1 / 3), pr (3, 1 / 6)]) (evds_cons (evd_tup (ds := [.int 3, fr (1 / 3)]) (evds_cons evd_int (evds_cons (EvD.is (lit 1 3 _) fr_13.symm) evds_nil)) (Nat.le_of_ble_eq_true rfl)) (evds_cons (evd_tup (ds := [.int 3, fr (1 / 6)]) (evds_cons evd_int (evds_cons (EvD.is (lit 1 6 _) fr_16.symm) evds_nil)) (Nat.le_of_ble_eq_true rfl)) evds_nil)) (Nat.le_of_ble_eq_true rfl)) (plus_tup (Nat.le_of_ble_eq_true rfl))) (evd_slT (xs := ring.map pr) (evd_var (i := 3) rfl) (evo_some (evd_int (i := 3))) evo_none) (plus_tup (Nat.le_of_ble_eq_true rfl))) (rfl : _ = rw_ ring2)) evds_nil)) (c_pword qr rs_ring2.q (by decide) hN pw_ring2)) (by rw [r_rest.2, n_word]; rfl)) evds_nil)) (Nat.le_of_ble_eq_true rfl)).ev (plus_lst (Nat.le_of_ble_eq_true rfl)))) ?_
    refine std_seq (ρ1 := σ wS (.dat handX) (.dat (.list x3)) rS) (std_asg (i := 1) (EvD.is (evd_op (evd_var (i := 1) rfl) (evf_lst (ds := [intsV [3], .bool false]) (evds_cons (EvD.is (evd_call (evds_cons (evd_var (i := 3) rfl) (evds_cons (EvD.is (evd_slT (xs := ring.map pr) (evd_var (i := 3) rfl) evo_none (evo_some (evd_un (evd_int (i := 1)) neg_intD))) (rfl : _ = rw_ (ring.take 5))) evds_nil)) (c_pword qr rs_ring5.q (by decide) hN pw_ring5)) (congrArg optW r_word)) (evds_cons (EvD.is (evd_call (evds_cons (evd_var (i := 3) rfl) (evds_cons (EvD.is (evd_slT (xs := ring.map pr) (evd_var (i := 3) rfl) (evo_some (evd_int (i := 1))) evo_none) (rfl : _ = rw_ (ring.drop 1))) evds_nil)) (c_sameW qr rs_ring1.q hN)) (congrArg PyData.bool r_same)) evds_nil)) (Nat.le_of_ble_eq_true rfl)).ev (plus_lst (Nat.le_of_ble_eq_true rfl))) rfl)) ?_
    refine std_seq (ρ1 := σ wS (.dat handX) (.dat handX) rS) (std_asg (i := 2) (EvD.is (evd_op (evd_var (i := 2) rfl) (evf_lst (ds := [.none, .none, intsV [3], .bool false]) (evds_cons evd_non (evds_cons evd_non (evds_cons (evd_tup (ds := [.int 3]) (evds_cons evd_int evds_nil) (Nat.le_of_ble_eq_true rfl)) (evds_cons evd_bl evds_nil)))) (Nat.le_of_ble_eq_true rfl)).ev (plus_lst (Nat.le_of_ble_eq_true rfl))) rfl)) ?_
    refine std_seq (std_if (x := false) (ted_not (x := true) (ted_B (evd_call (evds_cons (evd_var (i := 1) rfl) (evds_cons (evd_var (i := 2) rfl) evds_nil)) (c_same handX_ok.1 handX_ok.2)))) (fun h => by cases h) fun _ => std_next) ?_
    refine std_ret (evd_and (x := true) (evd_call (evds_cons (EvD.is (evd_slT (xs := wheel.map pr) (evd_var (i := 0) rfl) evo_none (evo_some (evd_int (i := 6)))) (rfl : _ = rw_ (wheel.take 6))) (evds_cons (EvD.is (evd_slT (xs := wheel.map pr) (evd_var (i := 0) rfl) evo_none (evo_some (evd_int (i := 3)))) (rfl : _ = rw_ (wheel.take 3))) (evds_cons (EvD.is evd_int (rfl : PyData.int 2 = .int ((2 : Nat) : Int))) evds_nil))) (c_case case_wheel)) (fun _ => ?_) fun h => by cases h)
    exact evd_call (evds_cons (EvD.is (evd_slT (xs := ring.map pr) (evd_var (i := 3) rfl) evo_none (evo_some (evd_int (i := 5)))) (rfl : _ = rw_ (ring.take 5))) (evds_cons (EvD.is (evd_op (evd_slT (xs := ring.map pr) (evd_var (i := 3) rfl) evo_none (evo_some (evd_int (i := 4)))) (evd_tup (ds := [pr (1, -1)]) (evds_cons (pairE 1 7 (-1) _ rfl) evds_nil) (Nat.le_of_ble_eq_true rfl)) (plus_tup (Nat.le_of_ble_eq_true rfl))) (rfl : _ = rw_ (ring.take 4 ++ [(1, -1)]))) (evds_cons (EvD.is evd_int (rfl : PyData.int 4 = .int ((4 : Nat) : Int))) evds_nil))) (c_case case_ring)
theorem c_hand : fHand [] (.bool true) := ⟨rfl, rfl⟩
theorem c_brk {r s : Row} (h1 : r.length ≤ 100) (h2 : s.length ≤ 100) (h3 : SmR r) (h4 : SmR s) : fBrk [rw_ r, rw_ s] (rw_ (brk r s)) := ⟨r, s, rfl, h1, h2, h3, h4, rfl⟩
end
end K37
namespace K37
open PySem PySem.Spec L2
/-! ### the source of draws: three whole numbers, changed in place -/
def Un (m : Nat) (xs : List PyData) : Prop := ∃ a b c : Int, xs = [.int a, .int b, .int c] ∧ 0 ≤ a ∧ (0 ≤ b ∧ b < 18446744073709551616) ∧ 0 ≤ c ∧ c + m ≤ 1000000
theorem Un.mono {m n : Nat} {xs : List PyData} (h : Un n xs) (l : m ≤ n) : Un m xs := by
  obtain ⟨a, b, c, e, h1, h2, h3, h4⟩ := h
  exact ⟨a, b, c, e, h1, h2, h3, by omega⟩
/-- all as before, but for the list at p -/
structure Gu (T : Tb) (p : Addr) (G H G' H' : Hp) : Prop where
  ex : ∃ us us', H p = some (.lst us) ∧ H' p = some (.lst us') ∧ G p = none ∧ Gw T G H G' (upd H' p (.lst us))
section
variable {T : Tb} {K : PySem.W.Frag} {p : Addr} {G H G' H' G1 H1 G2 H2 : Hp}
theorem Gu.of_gw (g : Gw T G H G' H') {us : List V} (h : H p = some (.lst us)) (gp : G p = none) : Gu T p G H G' H' := by
  have h' := g.keep h fun z => z
  exact ⟨us, us, h, h', gp, by rw [upd_back h']; exact g⟩
theorem Gu.le (g : Gu T p G H G' H') : Le G G' := by
  obtain ⟨_, _, _, _, _, g⟩ := g.ex
  exact g.le
theorem Gu.gp (g : Gu T p G H G' H') : G' p = none := by
  obtain ⟨us, us', h, h', gp, g⟩ := g.ex
  exact g.out h gp
theorem Gu.sub (g : Gu T p G H G' H') : Sub G' H' := by
  have gp := g.gp
  obtain ⟨us, us', h, h', _, g⟩ := g.ex
  refine ⟨fun a o e => ?_, g.sub.nt⟩
  have := g.sub.le a o e
  rwa [upd_ne (ne_of_none e gp)] at this
theorem Gu.tabs (g : Gu T p G H G' H') (t : LamX.Tabs T H) : LamX.Tabs T H' := by
  obtain ⟨us, us', h, h', _, g⟩ := g.ex
  have := tabs_upd (ws := us') (g.tabs t) (upd_same (a := p))
  rwa [upd_upd, upd_back h'] at this
theorem Gu.trans (x : Gu T p G H G1 H1) (y : Gu T p G1 H1 G2 H2) : Gu T p G H G2 H2 := by
  obtain ⟨us, us1, h, h1, gp, g⟩ := x.ex
  obtain ⟨vs, us2, k1, k2, _, g2⟩ := y.ex
  rw [h1] at k1
  cases k1
  refine ⟨us, us2, h, k2, gp, ?_⟩
  have := g2.base (ws := us) h1 y.gp
  rw [upd_upd] at this
  exact g.trans this
/-- a list made since is changed -/
theorem Gu.mut (x : Gu T p G H G1 H1) {r : Addr} {vs ws : List V} (hr : H r = none) (gr : G1 r = none) (h1 : H1 r = some (.lst vs)) : Gu T p G H G1 (upd H1 r (.lst ws)) := by
  obtain ⟨us, us1, h, hp, gp, g⟩ := x.ex
  have ne : r ≠ p := fun z => by subst z; rw [h] at hr; cases hr
  refine ⟨us, us1, h, by rw [upd_ne (fun z => ne z.symm)]; exact hp, gp, ?_⟩
  have hr1 : (upd H1 p (.lst us)) r = some (.lst vs) := by rw [upd_ne ne]; exact h1
  have e : upd (upd H1 r (.lst ws)) p (.lst us) = upd (upd H1 p (.lst us)) r (.lst ws) := by
    funext a
    by_cases z : a = p
    · subst z; rw [upd_same, upd_ne (fun q => ne q.symm), upd_same]
    · rw [upd_ne z]
      by_cases y : a = r
      · subst y; rw [upd_same, upd_same]
      · rw [upd_ne y, upd_ne y, upd_ne z]
  rw [e]
  exact g.mut hr gr hr1
end
section
variable {T : Tb} {K : PySem.W.Frag} {τ τ1 : List Sl} {te ta tb : TE} {d : PyData}
theorem En.urn0 {H0 G H : Hp} {σ : L2.St} {p : Addr} {xs : List PyData} (x : En K H0 G H σ (.urn p xs :: τ)) : σ[0]? = some (some (.ref p)) ∧ ∃ us, Bc H0 G H p us ∧ DqAll K G us xs := by
  obtain ⟨o, e1, h⟩ := x.ok 0 _ rfl
  have : o = some (.ref p) := h.1
  subst this
  exact ⟨e1, h.2⟩
/-- the slots but the first are data -/
theorem En.urn_make {H0 G H H1 G1 H2 : Hp} {σ : L2.St} {s0 : Sl} (x : En K H0 G H σ (s0 :: τ)) (no : K37.noOwn τ = true) (l : Le G G1) {p : Addr} {xs : List PyData} {us : List V} (e0 : σ[0]? = some (some (.ref p))) (b : Bc H1 G1 H2 p us) (q : DqAll K G1 us xs) : En K H1 G1 H2 σ (.urn p xs :: τ) := by
  refine ⟨x.len, fun i s e => ?_, fun i j di dj r hij ei ej => ?_⟩
  · cases i with
    | zero =>
      cases e
      exact ⟨_, e0, rfl, us, b, q⟩
    | succ i =>
      obtain ⟨o, e1, h⟩ := x.ok (i + 1) s e
      refine ⟨o, e1, ?_⟩
      rcases noOwn_get no (show τ[i]? = some s from e) with rfl | ⟨d, rfl⟩
      · trivial
      · obtain ⟨v, ev, qv⟩ := h
        exact ⟨v, ev, qv.le l⟩
  · cases i with
    | zero => cases ei
    | succ i =>
      rcases noOwn_get no (show τ[i]? = some _ from ei) with z | ⟨d, z⟩ <;> cases z
theorem En.urn_any {H0 G H : Hp} {σ : L2.St} {p : Addr} {xs : List PyData} (x : En K H0 G H σ (.urn p xs :: τ)) : En K H0 G H σ (.any :: τ) :=
  x.weak rfl fun i s e => by
    cases i with
    | zero => cases e; exact .inl rfl
    | succ i => exact .inr e
/-! readings -/
def EvU (T : Tb) (K : PySem.W.Frag) (k : Nat) (te : TE) (τ : List Sl) (R : PyData → Prop) : Prop :=
  ∀ (m : Nat) (p : Addr) (xs : List PyData) H0 G H σ, Sub G H → LamX.Tabs T H → Un (m + k) xs → En K H0 G H σ (.urn p xs :: τ) → ∀ Q : VK, (∀ v d ys H1 G' H', Gu T p G H G' H' → Un m ys → En K H1 G' H' σ (.urn p ys :: τ) → R d → Dq K G' v d → Q v H') → te σ H Q
def EvUs (T : Tb) (K : PySem.W.Frag) (k : Nat) (ta : TA) (τ : List Sl) (R : List PyData → Prop) : Prop :=
  ∀ (m : Nat) (p : Addr) (xs : List PyData) H0 G H σ, Sub G H → LamX.Tabs T H → Un (m + k) xs → En K H0 G H σ (.urn p xs :: τ) → ∀ Q : List V → Hp → Prop, (∀ vs ds ys H1 G' H', Gu T p G H G' H' → Un m ys → En K H1 G' H' σ (.urn p ys :: τ) → R ds → DqAll K G' vs ds → Q vs H') → ta σ H Q
theorem evu_imp {k : Nat} {R R' : PyData → Prop} (h : EvU T K k te τ R) (i : ∀ d, R d → R' d) : EvU T K k te τ R' := fun m p xs H0 G H σ s t u x Q q =>
  h m p xs H0 G H σ s t u x Q fun v d ys H1 G' H' g u' x' r => q v d ys H1 G' H' g u' x' (i d r)
theorem evu_d {k : Nat} (h : EvD T K te (.any :: τ) d) : EvU T K k te τ (fun x => x = d) := fun m p xs H0 G H σ s t u x Q q => by
  obtain ⟨_, us, b, _⟩ := x.urn0
  exact h H0 G H σ s t x.urn_any Q fun v G' H' g qv => q v d xs H0 G' H' (.of_gw g b.1 b.2.2) (u.mono (by omega)) (x.gw g) rfl qv
theorem evus_d {k : Nat} {ta : TA} {ds : List PyData} (h : EvDs T K ta (.any :: τ) ds) : EvUs T K k ta τ (fun x => x = ds) := fun m p xs H0 G H σ s t u x Q q => by
  obtain ⟨_, us, b, _⟩ := x.urn0
  exact h H0 G H σ s t x.urn_any Q fun vs G' H' g qv => q vs ds xs H0 G' H' (.of_gw g b.1 b.2.2) (u.mono (by omega)) (x.gw g) rfl qv
theorem evus_nil : EvUs T K 0 tNil τ (fun x => x = []) := evus_d evds_nil
theorem evus_cons {k1 k2 : Nat} {ta : TA} {R : PyData → Prop} {Rs : List PyData → Prop} (h : EvU T K k1 te τ R) (hs : EvUs T K k2 ta τ Rs) : EvUs T K (k1 + k2) (tCons te ta) τ (fun x => ∃ d ds, x = d :: ds ∧ R d ∧ Rs ds) := fun m p xs H0 G H σ s t u x Q q =>
  h (m + k2) p xs H0 G H σ s t (u.mono (by omega)) x _ fun v d ys H1 G1 H1' g1 u1 x1 r1 q1 =>
    hs m p ys H1 G1 H1' σ g1.sub (g1.tabs t) u1 x1 _ fun vs ds zs H2 G2 H2' g2 u2 x2 r2 q2 =>
      q (v :: vs) (d :: ds) zs H2 G2 H2' (g1.trans g2) u2 x2 ⟨d, ds, rfl, r1, r2⟩ (.cons (q1.le g2.le) q2)
theorem Gu.andGw {p : Addr} {G H G1 H1 G2 H2 : Hp} (g : Gu T p G H G1 H1) (h : Gw T G1 H1 G2 H2) : Gu T p G H G2 H2 := by
  obtain ⟨us, us1, e, e1, gp, _⟩ := g.ex
  exact g.trans (.of_gw h e1 g.gp)
theorem evu_op {k1 k2 : Nat} {r : R2} {Ra Rb R : PyData → Prop} (ha : EvU T K k1 ta τ Ra) (hb : EvU T K k2 tb τ Rb) (hr : ∀ a b, Ra a → Rb b → ∃ c, OpD T K r a b c ∧ R c) : EvU T K (k1 + k2) (tOp r ta tb) τ R := fun m p xs H0 G H σ s t u x Q q =>
  ha (m + k2) p xs H0 G H σ s t (u.mono (by omega)) x _ fun v a ys H1 G1 H1' g1 u1 x1 r1 q1 =>
    hb m p ys H1 G1 H1' σ g1.sub (g1.tabs t) u1 x1 _ fun w b zs H2 G2 H2' g2 u2 x2 r2 q2 => by
      obtain ⟨c, ho, rc⟩ := hr a b r1 r2
      exact ho G2 H2' v w g2.sub (g2.tabs (g1.tabs t)) (q1.le g2.le) q2 Q fun z G3 H3 g3 q3 => q z c zs H2 G3 H3 ((g1.trans g2).andGw g3) u2 (x2.gw g3) rc q3
theorem evu_cb {k : Nat} {r : List V → Hp → VK → Prop} {ta : TA} {Rs : List PyData → Prop} {R : PyData → Prop} (h : EvUs T K k ta τ Rs) (hr : ∀ ds, Rs ds → ∃ c, CbD T K r ds c ∧ R c) : EvU T K k (tCB r ta) τ R := fun m p xs H0 G H σ s t u x Q q =>
  h m p xs H0 G H σ s t u x _ fun vs ds ys H1 G1 H1' g1 u1 x1 r1 q1 => by
    obtain ⟨c, ho, rc⟩ := hr ds r1
    exact ho G1 H1' vs g1.sub (g1.tabs t) q1 Q fun z G3 H3 g3 q3 => q z c ys H1 G3 H3 (g1.andGw g3) u1 (x1.gw g3) rc q3
theorem evu_tup {k : Nat} {ta : TA} {Rs : List PyData → Prop} (h : EvUs T K k ta τ Rs) (hl : ∀ ds, Rs ds → ds.length ≤ 100000) : EvU T K k (tTup ta) τ (fun x => ∃ ds, x = .tuple ds ∧ Rs ds) := fun m p xs H0 G H σ s t u x Q q =>
  h m p xs H0 G H σ s t u x _ fun vs ds ys H1 G1 H1' g1 u1 x1 r1 q1 => ⟨by rw [q1.length]; exact sz_ok (hl ds r1), fun r hr => by
    have gn : Gw T G1 H1' _ _ := .new g1.sub hr (o := .tup vs) fun z => z
    exact q _ (.tuple ds) ys H1 _ _ (g1.andGw gn) u1 (x1.gw gn) ⟨ds, rfl, r1⟩ (.tup (SqT.of upd_same) (q1.le (Le.upd (g1.sub.le.none_of hr))))⟩
/-! names given to calls: a promise on draws -/
def spU (T : Tb) (K : PySem.W.Frag) (k : Nat) (pre : List PyData → Prop) (post : List PyData → PyData → Prop) : Sp := fun vs H Q _ =>
  ∃ G p ws ds xs us m, vs = .ref p :: ws ∧ Sub G H ∧ LamX.Tabs T H ∧ H p = some (.lst us) ∧ G p = none ∧ DqAll K G us xs ∧ DqAll K G ws ds ∧ Un (m + k) xs ∧ pre ds ∧ ∀ v d ys us' G' H', Gu T p G H G' H' → H' p = some (.lst us') → DqAll K G' us' ys → Un m ys → post ds d → Dq K G' v d → Q v H'
theorem evu_call {k1 k2 : Nat} {pre : List PyData → Prop} {post : List PyData → PyData → Prop} {E : XK} {ta : TA} {Rs : List PyData → Prop} (h : EvUs T K k1 ta τ Rs) (no : noOwn τ = true) (hp : ∀ ds, Rs ds → pre ds) : EvU T K (k1 + k2) (tCall (spU T K k2 pre post) [] E (tCons (tVar 0) ta)) τ (fun d => ∃ ds, Rs ds ∧ post ds d) := fun m p xs H0 G H σ s t u x Q q => by
  obtain ⟨e0, _⟩ := x.urn0
  refine ⟨_, e0, ?_⟩
  refine h (m + k2) p xs H0 G H σ s t (u.mono (by omega)) x _ fun ws ds ys H1 G1 H1' g1 u1 x1 r1 q1 => ?_
  show spU T K k2 pre post ((.ref p :: ws) ++ []) H1' Q E
  rw [List.append_nil]
  obtain ⟨_, us, b, qx⟩ := x1.urn0
  refine ⟨G1, p, ws, ds, ys, us, m, rfl, g1.sub, g1.tabs t, b.1, b.2.2, qx, q1, u1, hp ds r1, fun v d zs us' G' H' g h' qz uz pd qd => ?_⟩
  exact q v d zs H' G' H' (g1.trans g) uz (x1.urn_make no g.le e0 ⟨h', h', g.gp⟩ qz) ⟨ds, r1, pd⟩ qd
/-! a comprehension whose items draw -/
theorem evu_lc {k : Nat} {wi : TI} {g : TG} {vs js : List Nat} {ds : List PyData} {R : PyData → Prop} (no : noOwn τ = true) (hi : ItD T K wi (.any :: τ) ds) (hj : ∀ j ∈ js, j ∈ vs) (hv : ∀ v ∈ vs, v ≠ 0) (hsz : ds.length ≤ 10000)
    (hs : ∀ (i : Nat) d, ds[i]? = some d → ∃ τ1, noOwn τ1 = true ∧ TgD K g js d (wipeL (.any :: τ) vs) (.any :: τ1) ∧ EvU T K k te τ1 R) : EvU T K (k * ds.length) (tLc wi g tYes te vs) τ (fun x => ∃ es : List PyData, x = .list es ∧ es.length = ds.length ∧ ∀ e ∈ es, R e) := fun m p xs H0 G H σ s t u x Q q => by
  obtain ⟨e0, us, b, qx⟩ := x.urn0
  refine hi H0 G H σ s t x.urn_any _ fun J G1 H1 g1 w Dl hD => ?_
  have x1 := x.gw g1
  have b1 := b.gw g1
  have nD : Dl ≠ p := fun z => by subst z; rw [b1.1] at hD; cases hD
  have wipe0 : ∀ (ws : List Nat) (σ : L2.St), (∀ v ∈ ws, v ≠ 0) → (wipe σ ws)[0]? = σ[0]? := fun ws => by
    induction ws with
    | nil => intro σ _; rfl
    | cons w ws ih =>
      intro σ h
      show ((wipe σ ws).set w none)[0]? = _
      rw [List.getElem?_set_ne (h w (.head _))]
      exact ih σ fun v hv => h v (.tail _ hv)
  refine ⟨fun i n H => n = ds.length - i ∧ i ≤ ds.length ∧ ∃ G2 acc ys us2 es, Gu T p G1 H1 G2 H ∧ G2 Dl = none ∧ H Dl = some (.lst acc) ∧ DqAll K G2 acc es ∧ es.length = i ∧ (∀ e ∈ es, R e) ∧ Un (m + k * (ds.length - i)) ys ∧ H p = some (.lst us2) ∧ DqAll K G2 us2 ys, ⟨_, rfl, Nat.zero_le _, G1, [], xs, us, [], ?_, g1.sub.le.none_of hD, upd_same, .nil, rfl, fun e h => (nomatch h), u, by rw [upd_ne (fun z => nD z.symm)]; exact b1.1, qx.le g1.le⟩, ?_⟩
  · have : Gw T G1 H1 G1 (upd H1 Dl (.lst [])) := .newH g1.sub hD
    exact .of_gw this b1.1 b1.2.2
  rintro i n H2 ⟨rfl, hle, G2, acc, ys, us2, es, g2, gn, hl2, qa, el, er, uy, hp2, qy⟩
  by_cases hlt : i < ds.length
  · refine .inr ⟨w.go i G2 H2 g2.le g2.sub hlt, fun H3 => ∃ G2 acc ys us2 es, Gu T p G1 H1 G2 H3 ∧ G2 Dl = none ∧ H3 Dl = some (.lst acc) ∧ DqAll K G2 acc es ∧ es.length = i + 1 ∧ (∀ e ∈ es, R e) ∧ Un (m + k * (ds.length - (i + 1))) ys ∧ H3 p = some (.lst us2) ∧ DqAll K G2 us2 ys, fun H3 z => ⟨ds.length - (i + 1), by omega, rfl, hlt, z⟩, fun v H3 y => ?_⟩
    obtain ⟨τ1, no1, ht, hb⟩ := hs i _ (List.getElem?_eq_getElem hlt)
    obtain ⟨G3, g3, q3⟩ := w.yld i G2 H2 v H3 _ g2.le g2.sub y (List.getElem?_eq_getElem hlt)
    have hp3 := g3.keep hp2 fun z => z
    have gp3 : G3 p = none := g3.out hp2 g2.gp
    have hD3 := g3.keep hl2 fun z => z
    have gD3 : G3 Dl = none := g3.out hl2 gn
    have l13 : Le G1 G3 := g2.le.trans g3.le
    have xa : En K H3 G3 H3 σ (.any :: τ) := (x1.urn_make no l13 e0 ⟨hp3, hp3, gp3⟩ (qy.le g3.le)).urn_any
    refine ht H3 G3 H3 _ v g3.sub (xa.wipe vs) q3 _ fun σ4 x4 w4 => ⟨by rw [w4 vs hj, wipe_wipe], ?_⟩
    have e4 : σ4[0]? = some (some (.ref p)) := by
      have a1 := wipe0 vs σ4 hv
      rw [w4 vs hj, wipe_wipe, wipe0 vs σ hv, e0] at a1
      exact a1.symm
    show te σ4 H3 fun y H5 => _
    have x5 : En K H3 G3 H3 σ4 (.urn p ys :: τ1) := x4.urn_make no1 (.refl _) e4 ⟨hp3, hp3, gp3⟩ (qy.le g3.le)
    have ek : m + k * (ds.length - i) = (m + k * (ds.length - (i + 1))) + k := by
      have : ds.length - i = (ds.length - (i + 1)) + 1 := by omega
      rw [this, Nat.mul_succ]; omega
    refine hb _ p ys H3 G3 H3 σ4 g3.sub ((g2.andGw g3).tabs (g1.tabs t)) (ek ▸ uy) x5 _ fun v5 d5 zs B5 G5 H5 g5 u5 x6 r5 q5 => ?_
    obtain ⟨_, us5, b5, qz⟩ := x6.urn0
    obtain ⟨usA, usB, hA, hB, _, gI⟩ := g5.ex
    have hD5 : H5 Dl = some (.lst acc) := by
      have := gI.keep hD3 fun z => z
      rwa [upd_ne nD] at this
    have gD5 : G5 Dl = none := gI.out hD3 gD3
    have hle2 : acc.length ≤ 10000 := by
      rw [qa.length, el]; omega
    refine ⟨acc, hD5, Nat.lt_of_le_of_lt hle2 (by decide), G5, acc ++ [v5], zs, us5, es ++ [d5], ((g2.andGw g3).trans g5).mut hD gD5 hD5, gD5, upd_same, (qa.le (g3.le.trans g5.le)).append (.cons q5 .nil), by simp [el], fun e he => ?_, u5, by rw [upd_ne (fun z => nD z.symm)]; exact b5.1, qz⟩
    rcases List.mem_append.mp he with h | h
    · exact er e h
    · rw [List.mem_singleton.mp h]; exact r5
  · have e : i = ds.length := by omega
    subst e
    refine .inl ⟨w.stop G2 H2 g2.le g2.sub, ?_⟩
    have gD2 := g2
    have gl : Gu T p G1 H1 (upd G2 Dl (.lst acc)) H2 := by
      obtain ⟨us0, us1, h0, h1, gp0, g0⟩ := g2.ex
      refine ⟨us0, us1, h0, h1, gp0, ?_⟩
      exact g0.listen hD gn (by rw [upd_ne nD]; exact hl2)
    have lg : Le G2 (upd G2 Dl (.lst acc)) := Le.upd gn
    have g' : Gu T p G H (upd G2 Dl (.lst acc)) H2 := (Gu.of_gw g1 b.1 b.2.2).trans gl
    refine q (.ref Dl) (.list es) ys H2 _ H2 g' (uy.mono (by omega)) ?_ ⟨es, rfl, el, er⟩ (dq_list gn qa)
    exact x1.urn_make no gl.le e0 ⟨hp2, hp2, gl.gp⟩ (qy.le lg)
/-! statements that hand back -/
def StU (T : Tb) (K : PySem.W.Frag) (k : Nat) (ts : TS) (τ : List Sl) (R : PyData → Prop) : Prop :=
  ∀ (m : Nat) (p : Addr) (xs : List PyData) H0 G H σ D, Sub G H → LamX.Tabs T H → Un (m + k) xs → En K H0 G H σ (.urn p xs :: τ) → (∀ v d ys us' G' H', Gu T p G H G' H' → H' p = some (.lst us') → DqAll K G' us' ys → Un m ys → R d → Dq K G' v d → D.rt v H') → ts D σ H
theorem stu_imp {k : Nat} {ts : TS} {R R' : PyData → Prop} (h : StU T K k ts τ R) (i : ∀ d, R d → R' d) : StU T K k ts τ R' := fun m p xs H0 G H σ D s t u x q =>
  h m p xs H0 G H σ D s t u x fun v d ys us' G' H' g e qa u' r => q v d ys us' G' H' g e qa u' (i d r)
theorem stu_more {k k' : Nat} {ts : TS} {R : PyData → Prop} (h : StU T K k ts τ R) (l : k ≤ k') : StU T K k' ts τ R := fun m p xs H0 G H σ D s t u x q =>
  h m p xs H0 G H σ D s t (u.mono (by omega)) x q
theorem stu_ret {k : Nat} {R : PyData → Prop} (h : EvU T K k te τ R) : StU T K k (tRet te) τ R := fun m p xs H0 G H σ D s t u x q =>
  h m p xs H0 G H σ s t u x _ fun v d ys H1 G' H' g u' x' r qd => by
    obtain ⟨_, us, b, qy⟩ := x'.urn0
    exact q v d ys us G' H' g b.1 qy u' r qd
theorem En.setU {H0 G H : Hp} {σ : L2.St} {p : Addr} {xs : List PyData} (x : En K H0 G H σ (.urn p xs :: τ)) (i : Nat) {v : V} (q : Dq K G v d) : En K H0 G H (σ.set (i + 1) (some v)) (.urn p xs :: τ.set i (.dat d)) := x.setDat (i + 1) q
theorem stu_asg {k1 k2 i : Nat} {u : TS} {R R2 : PyData → Prop} (h : EvU T K k1 te τ R) (hu : ∀ d, R d → StU T K k2 u (τ.set i (.dat d)) R2) : StU T K (k1 + k2) (tSeq (tAsg te (gName (i + 1))) u) τ R2 := fun m p xs H0 G H σ D s t un x q =>
  h (m + k2) p xs H0 G H σ s t (un.mono (by omega)) x _ fun v d ys H1 G1 H1' g1 u1 x1 r1 q1 =>
    hu d r1 m p ys H1 G1 H1' _ D g1.sub (g1.tabs t) u1 (x1.setU i q1) fun v2 d2 zs us2 G2 H2 g2 => q v2 d2 zs us2 G2 H2 (g1.trans g2)
theorem stu_par {k1 k2 i j : Nat} {ta : TA} {u : TS} {Rs : List PyData → Prop} {R2 : PyData → Prop} (h : EvUs T K k1 ta τ Rs) (hu : ∀ ds, Rs ds → ∃ d1 d2, ds = [d1, d2] ∧ StU T K k2 u ((τ.set i (.dat d1)).set j (.dat d2)) R2) : StU T K (k1 + k2) (tSeq (tPar (i + 1) (j + 1) ta) u) τ R2 := fun m p xs H0 G H σ D s t un x q =>
  h (m + k2) p xs H0 G H σ s t (un.mono (by omega)) x _ fun vs ds ys H1 G1 H1' g1 u1 x1 r1 q1 => by
    obtain ⟨d1, d2, rfl, hu⟩ := hu ds r1
    cases q1 with | cons q1 qr =>
    cases qr with | cons q2 qr =>
    cases qr
    exact ⟨_, _, rfl, hu m p ys H1 G1 H1' _ D g1.sub (g1.tabs t) u1 ((x1.setU i q1).setU j q2) fun v2 d2 zs us2 G2 H2 g2 => q v2 d2 zs us2 G2 H2 (g1.trans g2)⟩
theorem stu_if {k : Nat} {x : Bool} {tt : TT} {a b u : TS} {R : PyData → Prop} (h : TeD T K tt (.any :: τ) x) (h1 : x = true → StU T K k (tSeq a u) τ R) (h2 : x = false → StU T K k (tSeq b u) τ R) : StU T K k (tSeq (tIfS tt a b) u) τ R := fun m p xs H0 G H σ D s t un y q => by
  obtain ⟨_, us, bc, _⟩ := y.urn0
  refine h H0 G H σ s t y.urn_any _ fun G1 H1 g1 => ?_
  have gu := Gu.of_gw g1 bc.1 bc.2.2
  cases x with
  | true => exact h1 rfl m p xs H0 G1 H1 σ D g1.sub (g1.tabs t) un (y.gw g1) fun v d ys us2 G2 H2 g2 => q v d ys us2 G2 H2 (gu.trans g2)
  | false => exact h2 rfl m p xs H0 G1 H1 σ D g1.sub (g1.tabs t) un (y.gw g1) fun v d ys us2 G2 H2 g2 => q v d ys us2 G2 H2 (gu.trans g2)
theorem stu_seqR {k : Nat} {t u : TS} {R : PyData → Prop} (h : StU T K k t τ R) : StU T K k (tSeq t u) τ R := fun m p xs H0 G H σ D s tb un x q =>
  h m p xs H0 G H σ _ s tb un x q
theorem stu_next {k : Nat} {u : TS} {R : PyData → Prop} (h : StU T K k u τ R) : StU T K k (tSeq tNext u) τ R := fun m p xs H0 G H σ D s tb un x q =>
  h m p xs H0 G H σ D s tb un x q
theorem stu_asgT {k1 k2 i j : Nat} {u : TS} {R R2 : PyData → Prop} (h : EvU T K k1 te τ R) (hu : ∀ d, R d → ∃ d1 d2, d = .tuple [d1, d2] ∧ StU T K k2 u ((τ.set i (.dat d1)).set j (.dat d2)) R2) : StU T K (k1 + k2) (tSeq (tAsg te (gTup K 2 (gCons (gName (i + 1)) (gCons (gName (j + 1)) gNil)))) u) τ R2 := fun m p xs H0 G H σ D s t un x q =>
  h (m + k2) p xs H0 G H σ s t (un.mono (by omega)) x _ fun v d ys H1 G1 H1' g1 u1 x1 r1 q1 => by
    obtain ⟨d1, d2, rfl, hu⟩ := hu d r1
    refine tgd_tup2 (tgd_name (i := i + 1)) (tgd_name (i := j + 1)) H1 G1 H1' σ v g1.sub x1 q1 _ fun σ' x' _ => ?_
    exact hu m p ys H1 G1 H1' σ' D g1.sub (g1.tabs t) u1 x' fun v2 d2 zs us2 G2 H2 g2 => q v2 d2 zs us2 G2 H2 (g1.trans g2)
/-! defs that draw -/
theorem body_ofU {N ps : List Str} {k : Nat} {pre : List PyData → Prop} {post : List PyData → PyData → Prop} {t : TS} {n : Nat} (hlen : ∀ ds, pre ds → ds.length + 1 = ps.length) (hn : N.length - ps.length = n) (h : ∀ ds, pre ds → StU T K k t (ds.map Sl.dat ++ List.replicate n Sl.any) (post ds)) :
    ∀ vs H Q E, spU T K k pre post vs H Q E → t { nx := fun _ H' => Q .non H', rt := Q } (L2.start N vs) H := by
  rintro vs H Q E ⟨G, p, ws, ds, xs, us, m, rfl, s, tb, hp, gp, qx, qw, u, hpre, q⟩
  have hl := qw.length
  have hlen' := hlen ds hpre
  have x0 : En K H (fun a => if a = p then some (.lst us) else G a) H (L2.start N (.ref p :: ws)) ((PyData.list xs :: ds).map Sl.dat ++ List.replicate n Sl.any) := by
    have l : Le G (fun a => if a = p then some (.lst us) else G a) := fun a o e => by
      have : a ≠ p := ne_of_none e gp
      show (if a = p then _ else G a) = _
      rw [if_neg this]; exact e
    refine en_start (.cons (.lst (if_pos rfl) (qx.le l)) (qw.le l)) ?_
    rw [← hn, ← hlen', List.length_cons, hl]
  have e0 : (L2.start N (.ref p :: ws))[0]? = some (some (.ref p)) := rfl
  have x1 : En K H G H (L2.start N (.ref p :: ws)) (.urn p xs :: (ds.map Sl.dat ++ List.replicate n Sl.any)) := by
    refine ⟨x0.len, fun i sl e => ?_, fun i j di dj r hij ei ej => ?_⟩
    · cases i with
      | zero => cases e; exact ⟨_, e0, rfl, us, ⟨hp, hp, gp⟩, qx⟩
      | succ i =>
        have e' : (ds.map Sl.dat ++ List.replicate n Sl.any)[i]? = some sl := e
        obtain ⟨o, e1, hk⟩ := x0.ok (i + 1) sl e
        refine ⟨o, e1, ?_⟩
        by_cases hi : i < ds.length
        · rw [List.getElem?_append_left (by simpa using hi), List.getElem?_map] at e'
          cases ed : ds[i]? with
          | none => rw [ed] at e'; cases e'
          | some d =>
            rw [ed] at e'; cases e'
            obtain ⟨v, hv, qv⟩ := qw.get ed
            refine ⟨v, ?_, qv⟩
            have : (L2.start N (.ref p :: ws))[i + 1]? = some (some v) := by
              unfold L2.start
              rw [List.getElem?_append_left (by simp; omega), List.getElem?_map, List.getElem?_cons_succ, hv]; rfl
            rw [e1] at this
            exact Option.some.inj this
        · have hm : sl ∈ List.replicate n Sl.any := by
            rw [List.getElem?_append_right (by simpa using hi)] at e'
            exact List.mem_of_getElem? e'
          rw [(List.mem_replicate.mp hm).2]; trivial
    · cases i with
      | zero => cases ei
      | succ i =>
        have hm := List.mem_of_getElem? (show (ds.map Sl.dat ++ List.replicate n Sl.any)[i]? = some _ from ei)
        rcases List.mem_append.mp hm with h | h
        · obtain ⟨d, _, z⟩ := List.mem_map.mp h; cases z
        · cases (List.mem_replicate.mp h).2
  exact h ds hpre m p xs H G H _ _ s tb u x1 q
theorem sp_lenU {ps : List Str} {k : Nat} {pre : List PyData → Prop} {post : List PyData → PyData → Prop} (hlen : ∀ ds, pre ds → ds.length + 1 = ps.length) : ∀ vs H Q E, spU T K k pre post vs H Q E → vs.length = ps.length := by
  rintro vs H Q E ⟨G, p, ws, ds, xs, us, m, rfl, s, tb, hp, gp, qx, qw, u, hpre, q⟩
  rw [← hlen ds hpre, List.length_cons, qw.length]
theorem df_ofU {P : Program} {w : World} {mg : Str → Option Value} {base : Heap} {fn : List He.DefD} {bl : List Str} {cons : List (Str × PyData)} {ld : He.DefD} {lq : Str} (C : Ct P w K mg base T fn bl cons ld lq) {i : Nat} {x : Str} {pr : Arguments} {bd : List Stmt} {sc : Scope}
    {N ps : List Str} {k n kd : Nat} {pre : List PyData → Prop} {post : List PyData → PyData → Prop} (h : fn[i]? = some ⟨(x, none), x, x, pr, bd, sc, [], []⟩) (S : FnScope N ps sc)
    (hb : ∀ (kV doc pm : Value) (an : Option Addr) (cdv ct : Value) (us : List Value), us.length = ps.length → bindArgs (PySem.W.fnOf x x pr bd sc .none kV doc pm an cdv ct) ⟨us, []⟩ = pure (ps.zip us))
    (hlen : ∀ ds, pre ds → ds.length + 1 = ps.length) (hn : N.length - ps.length = n)
    (body : ∀ (cdv : Value) (A : Around) (outer : List Env) (s : Shared) (H : Hp) (E : XK) (fa : Addr), Room k (A.deeper (PyProof.Rows.envOfC x sc s.heap.objs.size fa cdv)) → ∃ t, PSs (cxOf CX0 P w K mg base N x sc fa cdv A outer s H E).nox bd t ∧ ∀ ds, pre ds → StU T K kd t (ds.map Sl.dat ++ List.replicate n Sl.any) (post ds)) :
    Df P w K mg base x (k + 1) ps (spU T K kd pre post) := by
  obtain ⟨fa, fd, F, hm⟩ := C.fnat i _ h
  refine ⟨fa, fd, F.ok S (sp_lenU hlen) (fun cdv A outer s H vs Q E hr hsp => ?_), hm, F.kp, ?_⟩
  · obtain ⟨t, ht, hs⟩ := body cdv A outer s H E fa hr
    exact ⟨t, ht.nox, body_ofU hlen hn hs vs H Q E hsp⟩
  · exact F.bindsN hb
end
end K37
namespace K37
open PySem PySem.Spec L2
local macro_rules | `(tactic| walk_at "sz") => `(tactic| first | assumption | decide | omega)
local macro_rules | `(tactic| walk_at "call") => `(tactic| fail "no call")
local macro_rules | `(tactic| walk_at "cb") => `(tactic| first
  | with_reducible exact gcd_D | with_reducible exact len_T | with_reducible exact len_L | with_reducible exact tuple_L | with_reducible exact tuple_T | with_reducible exact max_D | with_reducible exact min_D | with_reducible exact abs_D
  | with_reducible exact int_D | with_reducible exact int_B)
local macro_rules | `(tactic| walk_at "op") => `(tactic| first
  | with_reducible exact minus_int | with_reducible exact plus_int | ((with_reducible apply times_int); walk_at "sz") | ((with_reducible apply ix_tupD); exact rfl) | ((with_reducible apply ix_lstD); exact rfl)
  | with_reducible exact lt_intD | with_reducible exact le_intD | with_reducible exact gt_intD | with_reducible exact ge_intD
  | ((with_reducible apply eq_D) <;> first | exact rfl | exact fr_shaped _ | assumption) | ((with_reducible apply ne_D) <;> first | exact rfl | exact fr_shaped _ | assumption)
  | ((with_reducible apply fdiv_int); walk_at "sz") | ((with_reducible apply fmod_int); walk_at "sz")
  | ((with_reducible apply plus_tup); walk_at "sz") | ((with_reducible apply plus_lst); walk_at "sz"))
local macro_rules | `(tactic| walk_at "evs") => `(tactic| first
  | with_reducible exact evds_nil
  | ((with_reducible apply evds_cons); (· walk_at "ev"); (· walk_at "evs")))
local macro_rules | `(tactic| walk_at "ev") => `(tactic| first
  | assumption
  | ((with_reducible apply evd_var); exact rfl)
  | with_reducible exact evd_int | with_reducible exact evd_cst | with_reducible exact evd_non | with_reducible exact evd_bl
  | ((with_reducible apply evd_op); (· walk_at "ev"); (· walk_at "ev"); (· walk_at "op"))
  | ((with_reducible apply evd_un); (· walk_at "ev"); (· with_reducible exact neg_intD))
  | ((with_reducible apply evd_call); (· walk_at "evs"); (· walk_at "call"))
  | ((with_reducible apply evd_cb); (· walk_at "evs"); (· walk_at "cb"))
  | ((with_reducible apply evd_tup); (· walk_at "evs"); (· exact Nat.le_of_ble_eq_true rfl))
  | ((with_reducible apply evd_isN); walk_at "ev") | ((with_reducible apply evd_notN); walk_at "ev")
  | ((with_reducible apply evd_not); walk_at "ev"))
local macro_rules | `(tactic| walk_at "te") => `(tactic| first
  | ((with_reducible apply ted_test); walk_at "ev") | ((with_reducible apply ted_B); walk_at "ev") | ((with_reducible apply ted_not); walk_at "te"))

section
variable {T : Tb} {K : PySem.W.Frag} {ρ ρ1 : List Sl} {te tb : TE} {d : PyData} {A : List Addr}
theorem En.urnI {H0 G H : Hp} {σ : L2.St} {i : Nat} {p : Addr} {xs : List PyData} (x : En K H0 G H σ ρ) (e : ρ[i]? = some (.urn p xs)) : σ[i]? = some (some (.ref p)) ∧ ∃ us, Bc H0 G H p us ∧ DqAll K G us xs := by
  obtain ⟨o, e1, h⟩ := x.ok i _ e
  have : o = some (.ref p) := h.1
  subst this
  exact ⟨e1, h.2⟩
theorem evd_ixUrn {i : Nat} {p : Addr} {xs : List PyData} {k : Int} (e : ρ[i]? = some (.urn p xs)) (hk : EvD T K tb ρ (.int k)) (h : atI xs k = some d) : EvD T K (tOp (rIx K) (tVar i) tb) ρ d := fun H0 G H σ s t x Q c => by
  obtain ⟨e1, us, b, qx⟩ := x.urnI e
  refine ⟨_, e1, hk H0 G H σ s t x _ fun w G1 H1 g1 qw => ?_⟩
  cases qw
  exact ix_lstV (b.gw g1).1 (qx.le g1.le) h fun v qv => c v G1 H1 g1 qv
theorem stb_urn {i k : Nat} {p : Addr} {xs : List PyData} (hA : p ∈ A) (e : ρ[i]? = some (.urn p xs)) (so : Sole ρ i) (h : EvD T K te ρ d) (hk : EvD T K tb ρ (.int (k : Int))) (hl : k < xs.length) : StB T K A (tAsg te (gSub (tVar i) tb rSetL)) ρ (ρ.set i (.urn p (xs.set k d))) := fun G0 H0 σ G H D tbs g x q => by
  refine h H0 G H σ g.sub (g.tabs tbs) x _ fun v G1 H1 g1 qv => ?_
  have x1 := x.gw g1
  obtain ⟨e1, us, b, qx⟩ := x1.urnI e
  refine ⟨_, e1, hk H0 G1 H1 σ g1.sub (g1.tabs (g.tabs tbs)) x1 _ fun w G2 H2 g2 qw => ?_⟩
  cases qw
  have x2 := x1.gw g2
  have b2 := b.gw g2
  have gg := (g.trans g1).trans g2
  refine ⟨p, us, (k : Int), k, rfl, rfl, b2.1, ixN_nat (by rw [qx.length]; exact hl), ?_⟩
  refine q σ G2 _ _ (.upd hA) (tabs_upd tbs b2.2.1) (gg.base b2.2.1 b2.2.2) (g1.le.trans g2.le) ?_
  refine x2.base e rfl rfl so b2.2.1 b2.1 fun o ho => ?_
  exact ⟨ho.1, _, ⟨upd_same, upd_same, b2.2.2⟩, DqAll.set (qv.le g2.le) k (qx.le g2.le)⟩
/-- statements that end with a return, the draws then being ys -/
def UR (T : Tb) (K : PySem.W.Frag) (p : Addr) (ts : TS) (ρ : List Sl) (d : PyData) (ys : List PyData) : Prop :=
  ∀ G0 H0 σ G H D, LamX.Tabs T H0 → Gw T G0 H0 G H → En K H0 G H σ ρ → (∀ v B G' H' us', Off [p] H0 B → LamX.Tabs T B → Gw T G0 B G' H' → Bc B G' H' p us' → DqAll K G' us' ys → Dq K G' v d → D.rt v H') → ts D σ H
theorem ur_ret {i : Nat} {p : Addr} {ys : List PyData} (e : ρ[i]? = some (.urn p ys)) (h : EvD T K te ρ d) : UR T K p (tRet te) ρ d ys := fun G0 H0 σ G H D tb g x q =>
  h H0 G H σ g.sub (g.tabs tb) x _ fun v G1 H1 g1 qv => by
    obtain ⟨_, us, b, qx⟩ := (x.gw g1).urnI e
    exact q v H0 G1 H1 us (.refl _) tb (g.trans g1) b qx qv
theorem ur_seq {p : Addr} {t u : TS} {ys : List PyData} (h1 : StB T K [p] t ρ ρ1) (h2 : UR T K p u ρ1 d ys) : UR T K p (tSeq t u) ρ d ys := fun G0 H0 σ G H D tb g x q =>
  h1 G0 H0 σ G H _ tb g x fun σ1 G1 B1 H1 o1 t1 g1 l1 x1 => h2 G0 B1 σ1 G1 H1 D t1 g1 x1 fun v B G' H' us' o t' g' b qy qv => q v B G' H' us' (o1.trans o) t' g' b qy qv
theorem ur_seqR {p : Addr} {t u : TS} {ys : List PyData} (h : UR T K p t ρ d ys) : UR T K p (tSeq t u) ρ d ys := fun G0 H0 σ G H D tb g x q =>
  h G0 H0 σ G H _ tb g x q
theorem ur_if {p : Addr} {x : Bool} {tt : TT} {a b : TS} {ys : List PyData} (h : TeD T K tt ρ x) (h1 : x = true → UR T K p a ρ d ys) (h2 : x = false → UR T K p b ρ d ys) : UR T K p (tIfS tt a b) ρ d ys := fun G0 H0 σ G H D tb g y q =>
  h H0 G H σ g.sub (g.tabs tb) y _ fun G1 H1 g1 => by
    cases x with
    | true => exact h1 rfl G0 H0 σ G1 H1 D tb (g.trans g1) (y.gw g1) q
    | false => exact h2 rfl G0 H0 σ G1 H1 D tb (g.trans g1) (y.gw g1) q
theorem ur_ifS {p : Addr} {x : Bool} {tt : TT} {a b u : TS} {ys : List PyData} (h : TeD T K tt ρ x) (h1 : x = true → UR T K p (tSeq a u) ρ d ys) (h2 : x = false → UR T K p (tSeq b u) ρ d ys) : UR T K p (tSeq (tIfS tt a b) u) ρ d ys := fun G0 H0 σ G H D tb g y q =>
  h H0 G H σ g.sub (g.tabs tb) y _ fun G1 H1 g1 => by
    cases x with
    | true => exact h1 rfl G0 H0 σ G1 H1 D tb (g.trans g1) (y.gw g1) q
    | false => exact h2 rfl G0 H0 σ G1 H1 D tb (g.trans g1) (y.gw g1) q
theorem sole0 {p : Addr} {xs : List PyData} {τ : List Sl} (no : noOwn τ = true) : Sole (.urn p xs :: τ) 0 := fun j t hj e => by
  cases j with
  | zero => exact absurd rfl hj
  | succ j =>
    rcases noOwn_get no (show τ[j]? = some t from e) with rfl | ⟨d, rfl⟩ <;> rfl
theorem ur_fin {p : Addr} {ts : TS} {τ : List Sl} {xs ys : List PyData} (no : noOwn τ = true) (h : UR T K p ts (.urn p xs :: τ) d ys) {H0 G H : Hp} {σ : L2.St} {D : Ends} (s : Sub G H) (tb : LamX.Tabs T H) (x : En K H0 G H σ (.urn p xs :: τ))
    (k : ∀ v us' G' H', Gu T p G H G' H' → H' p = some (.lst us') → DqAll K G' us' ys → Dq K G' v d → D.rt v H') : ts D σ H := by
  obtain ⟨e0, us, b, qx⟩ := x.urn0
  have xH : En K H G H σ (.urn p xs :: τ) := x.urn_make no (.refl _) e0 ⟨b.1, b.1, b.2.2⟩ qx
  refine h G H σ G H D tb (.refl s) xH fun v B G' H' us' off tB g b' qy qv => ?_
  have g1 := g.base (ws := us) b'.2.1 b'.2.2
  have eB : upd B p (.lst us) = H := by
    funext a
    by_cases z : a = p
    · subst z; rw [upd_same, b.1]
    · rw [upd_ne z]; exact off a (by simpa using z)
  rw [eB] at g1
  exact k v us' G' H' ⟨us, us', b.1, b'.1, b.2.2, g1⟩ b'.1 qy qv
end
def preTake (ds : List PyData) : Prop := ∃ k : Int, ds = [.int k] ∧ 1 ≤ k ∧ k ≤ 100
def postTake (ds : List PyData) (d : PyData) : Prop := ∃ k r : Int, ds = [.int k] ∧ d = .int r ∧ 0 ≤ r ∧ r < k
section
variable {P : Program} {w : World} {K : PySem.W.Frag} {mg : Str → Option Value} {base : Heap} {T : Tb}
theorem sc__law_take : FnScope ["_law_urn", "_law_low_so", "_law_once", "_law_far", "_law_twice", "_law_drawn"] ["_law_urn", "_law_low_so"] (defScope (top 70)) := ⟨rfl, rfl, rfl, by decide +kernel, rfl, by decide +kernel, by decide +kernel⟩
theorem d_law_take (C : CT P w K mg base T) : Df P w K mg base "_law_take" 1 ["_law_urn", "_law_low_so"] (spU T K 1 preTake postTake) := by
  refine df_ofU C (i := 52) (x := "_law_take") (N := ["_law_urn", "_law_low_so", "_law_once", "_law_far", "_law_twice", "_law_drawn"]) (n := 4) rfl sc__law_take (fun _ _ _ _ _ _ us hl => match us, hl with | [_, _], _ => rfl) ?_ rfl fun cdv A outer s H E fa hr => ⟨_, (pss_cons (ps_if (pt_cmpR op_gt (pe_ix (ix_seqK K rfl) (pv 0) pe_int (fun _ _ => rfl)) pe_int (nomark _)) (pss_cons (ps_set (i := 5) sc__law_take.nd rfl (by first | exact Or.inl rfl | exact Or.inr rfl) (pe_op op_modN (pe_callTy call_int1 (by rfl) (C.free 5 _ rfl) (by decide +kernel) (pa_cons (pe_ix (ix_seqK K rfl) (pv 0) pe_int (fun _ _ => rfl)) pa_nil)) (pv 1)))
  (pss_cons (ps_asg (pe_op op_fdivZ (pe_ix (ix_seqK K rfl) (pv 0) pe_int (fun _ _ => rfl)) (pv 1)) (pg_sub (pv 0) pe_int set_list))
  (pss_one (ps_ret (pv 5))))) pss_nil)
  (pss_cons (ps_asg (pe_op (op_plusK K rfl) (pe_ix (ix_seqK K rfl) (pv 0) pe_int (fun _ _ => rfl)) pe_int) (pg_sub (pv 0) pe_int set_list))
  (pss_cons (ps_set (i := 2) sc__law_take.nd rfl (by first | exact Or.inl rfl | exact Or.inr rfl) (pe_op op_modN (pe_callTy call_int1 (by rfl) (C.free 5 _ rfl) (by decide +kernel) (pa_cons (pe_op (op_timesK K rfl) (pe_op (op_plusK K rfl) (pe_ix (ix_seqK K rfl) (pv 0) pe_int (fun _ _ => rfl)) (pe_op (op_timesK K rfl) pe_int (pe_ix (ix_seqK K rfl) (pv 0) pe_int (fun _ _ => rfl)))) (pe_op (op_plusK K rfl) pe_int (pe_ix (ix_seqK K rfl) (pv 0) pe_int (fun _ _ => rfl)))) pa_nil)) pe_int))
  (pss_cons (ps_set (i := 3) sc__law_take.nd rfl (by first | exact Or.inl rfl | exact Or.inr rfl) (pe_op (op_plusK K rfl) (pe_op op_modN (pe_callTy call_int1 (by rfl) (C.free 5 _ rfl) (by decide +kernel) (pa_cons (pv 2) pa_nil)) pe_int) pe_int))
  (pss_cons (ps_set (i := 4) sc__law_take.nd rfl (by first | exact Or.inl rfl | exact Or.inr rfl) (pe_op op_modN (pe_callTy call_int1 (by rfl) (C.free 5 _ rfl) (by decide +kernel) (pa_cons (pe_op (op_timesK K rfl) (pe_op (op_plusK K rfl) (pe_op (op_plusK K rfl) (pv 2) (pe_ix (ix_seqK K rfl) (pv 0) pe_int (fun _ _ => rfl))) (pe_op op_fdivZ (pe_ix (ix_seqK K rfl) (pv 0) pe_int (fun _ _ => rfl)) pe_int)) (pv 3)) pa_nil)) pe_int))
  (pss_one (ps_ret (pe_op op_modN (pe_callTy call_int1 (by rfl) (C.free 5 _ rfl) (by decide +kernel) (pa_cons (pe_op op_fdivZ (pe_op op_modN (pe_callTy call_int1 (by rfl) (C.free 5 _ rfl) (by decide +kernel) (pa_cons (pe_op (op_plusK K rfl) (pe_op (op_timesK K rfl) (pv 4) pe_int) (pv 2)) pa_nil)) pe_int) pe_int) pa_nil)) (pv 1))))))))), ?_⟩
  · rintro _ ⟨k, rfl, _⟩; rfl
  · rintro _ ⟨k, rfl, k1, k2⟩
    intro m p xs H0 G H σ D s t un x q
    obtain ⟨a, b, c, rfl, ha, ⟨hb0, hb⟩, hc, hcm⟩ := un
    have kz : k ≠ 0 := by omega
    have kd : CDivZ a k := ⟨kz, Nat.lt_of_le_of_lt (Nat.log2_le_self _) (by omega)⟩
    let ρ : Int → Int → Sl → Sl → Sl → Sl → List Sl := fun a c u v w z => .urn p [.int a, .int b, .int c] :: [.dat (.int k), u, v, w, z]
    have at0 : ∀ (a c : Int) u v w z, EvD T K (tOp (rIx K) (tVar 0) (tC (V.int 0))) (ρ a c u v w z) (.int a) := fun a c u v w z => evd_ixUrn (i := 0) rfl evd_int rfl
    have at1 : ∀ (a c : Int) u v w z, EvD T K (tOp (rIx K) (tVar 0) (tC (V.int 1))) (ρ a c u v w z) (.int b) := fun a c u v w z => evd_ixUrn (i := 0) rfl evd_int rfl
    have at2 : ∀ (a c : Int) u v w z, EvD T K (tOp (rIx K) (tVar 0) (tC (V.int 2))) (ρ a c u v w z) (.int c) := fun a c u v w z => evd_ixUrn (i := 0) rfl evd_int rfl
    have tst : TeD T K (tTest (tOp (rI0 fun i j => V.bl (decide (j < i))) (tOp (rIx K) (tVar 0) (tC (V.int 0))) (tC (V.int 0)))) (ρ a c .any .any .any .any) (decide (0 < a)) := ted_test (evd_op (at0 _ _ _ _ _ _) evd_int gt_intD)
    by_cases hpos : 0 < a
    · refine ur_fin (d := .int (a.fmod k)) (ys := [.int (a.fdiv k), .int b, .int c]) (τ := [.dat (.int k), .any, .any, .any, .any]) rfl (ur_ifS (TeD.is tst (decide_eq_true hpos)) (fun _ => ur_seqR ?_) fun h => by cases h) s t x fun v us' G' H' g h' qy qv => q v _ _ us' G' H' g h' qy ?_ ⟨k, _, rfl, rfl, Int.fmod_nonneg_of_pos _ (by omega), Int.fmod_lt_of_pos _ (by omega)⟩ qv
      · refine ur_seq (ρ1 := ρ a c .any .any .any (.dat (.int (a.fmod k)))) (std_asg (i := 5) (evd_op (evd_cb (evds_cons (at0 _ _ _ _ _ _) evds_nil) int_D) (evd_var (i := 1) rfl) (fmod_int kz))).b ?_
        refine ur_seq (ρ1 := ρ (a.fdiv k) c .any .any .any (.dat (.int (a.fmod k)))) (stb_urn (i := 0) (k := 0) (p := p) (xs := [.int a, .int b, .int c]) (.head _) rfl (sole0 rfl) (evd_op (at0 _ _ _ _ _ _) (evd_var (i := 1) rfl) (fdiv_int kd)) evd_int (Nat.le_of_ble_eq_true rfl)) ?_
        exact ur_ret (i := 0) rfl (evd_var (i := 5) rfl)
      · exact ⟨_, b, c, rfl, Int.fdiv_nonneg ha (by omega), ⟨hb0, hb⟩, hc, by omega⟩
    · obtain ⟨c1, ec1⟩ : ∃ c1 : Int, c1 = c + 1 := ⟨_, rfl⟩
      obtain ⟨once, eo⟩ : ∃ o : Int, o = ((b + 48271 * c1) * (39373 + c1)).fmod 2147483647 := ⟨_, rfl⟩
      obtain ⟨far, ef⟩ : ∃ o : Int, o = once.fmod 40009 + 7 := ⟨_, rfl⟩
      obtain ⟨bq, ebq⟩ : ∃ o : Int, o = b.fdiv 1000003 := ⟨_, rfl⟩
      obtain ⟨twice, et⟩ : ∃ o : Int, o = ((once + c1 + bq) * far).fmod 2147483629 := ⟨_, rfl⟩
      have o0 : 0 ≤ once ∧ once < 2147483647 := by rw [eo]; exact ⟨Int.fmod_nonneg_of_pos _ (by decide), Int.fmod_lt_of_pos _ (by decide)⟩
      have f0 : 7 ≤ far ∧ far < 40016 := by
        have h1 := Int.fmod_nonneg_of_pos once (show (0 : Int) < 40009 by decide)
        have h2 := Int.fmod_lt_of_pos once (show (0 : Int) < 40009 by decide)
        omega
      have t0 : 0 ≤ twice ∧ twice < 2147483629 := by rw [et]; exact ⟨Int.fmod_nonneg_of_pos _ (by decide), Int.fmod_lt_of_pos _ (by decide)⟩
      have q0 : 0 ≤ bq ∧ bq ≤ b := by
        rw [Int.fdiv_eq_ediv_of_nonneg _ (by decide)] at ebq
        omega
      have m1 : CMulX 48271 c1 := sm_mul (a := 16) (b := 20) (by decide) (by omega)
      have m2 : CMulX (b + 48271 * c1) (39373 + c1) := sm_mul (a := 65) (b := 21) (by omega) (by omega)
      have m3 : CMulX (once + c1 + bq) far := sm_mul (a := 65) (b := 16) (by omega) (by omega)
      have m4 : CMulX twice 48271 := sm_mul (a := 31) (b := 16) (by omega) (by decide)
      have d1 : CDivZ b 1000003 := ⟨by decide, by decide +kernel⟩
      obtain ⟨last, el⟩ : ∃ o : Int, o = ((twice * 48271 + once).fmod 2147483587).fdiv 64 := ⟨_, rfl⟩
      have d2 : CDivZ ((twice * 48271 + once).fmod 2147483587) 64 := ⟨by decide, by decide +kernel⟩
      refine ur_fin (d := .int (last.fmod k)) (ys := [.int a, .int b, .int c1]) (τ := [.dat (.int k), .any, .any, .any, .any]) rfl (ur_ifS (TeD.is tst (decide_eq_false hpos)) (fun h => by cases h) fun _ => ur_seq (StD.b std_next) ?_) s t x fun v us' G' H' g h' qy qv => q v _ _ us' G' H' g h' qy ?_ ⟨k, _, rfl, rfl, Int.fmod_nonneg_of_pos _ (by omega), Int.fmod_lt_of_pos _ (by omega)⟩ qv
      · refine ur_seq (ρ1 := ρ a c1 .any .any .any .any) (ec1 ▸ stb_urn (i := 0) (k := 2) (p := p) (xs := [.int a, .int b, .int c]) (.head _) rfl (sole0 rfl) (evd_op (at2 _ _ _ _ _ _) evd_int plus_int) evd_int (Nat.le_of_ble_eq_true rfl)) ?_
        refine ur_seq (ρ1 := ρ a c1 (.dat (.int once)) .any .any .any) (eo ▸ (std_asg (i := 2) (evd_op (evd_cb (evds_cons (evd_op (evd_op (at1 a c1 .any .any .any .any) (evd_op evd_int (at2 _ _ _ _ _ _) (times_int m1)) plus_int) (evd_op evd_int (at2 _ _ _ _ _ _) plus_int) (times_int m2)) evds_nil) int_D) evd_int (fmod_int (by decide)))).b) ?_
        refine ur_seq (ρ1 := ρ a c1 (.dat (.int once)) (.dat (.int far)) .any .any) (ef ▸ (std_asg (i := 3) (evd_op (evd_op (evd_cb (evds_cons (evd_var (ρ := ρ a c1 (.dat (.int once)) .any .any .any) (i := 2) rfl) evds_nil) int_D) evd_int (fmod_int (by decide))) evd_int plus_int)).b) ?_
        refine ur_seq (ρ1 := ρ a c1 (.dat (.int once)) (.dat (.int far)) (.dat (.int twice)) .any) (et ▸ (std_asg (i := 4) (evd_op (evd_cb (evds_cons (evd_op (evd_op (evd_op (evd_var (ρ := ρ a c1 (.dat (.int once)) (.dat (.int far)) .any .any) (i := 2) rfl) (at2 _ _ _ _ _ _) plus_int) (ebq ▸ evd_op (at1 _ _ _ _ _ _) evd_int (fdiv_int d1)) plus_int) (evd_var (i := 3) rfl) (times_int m3)) evds_nil) int_D) evd_int (fmod_int (by decide)))).b) ?_
        refine ur_ret (i := 0) rfl (evd_op (evd_cb (evds_cons (EvD.is (evd_op (evd_op (evd_cb (evds_cons (evd_op (evd_op (evd_var (i := 4) rfl) evd_int (times_int m4)) (evd_var (i := 2) rfl) plus_int) evds_nil) int_D) evd_int (fmod_int (by decide))) evd_int (fdiv_int d2)) (congrArg PyData.int el.symm)) evds_nil) int_D) (evd_var (i := 1) rfl) (fmod_int kz))
      · exact ⟨a, b, c1, rfl, ha, ⟨hb0, hb⟩, by omega, by omega⟩
end
end K37
namespace K37
open PySem PySem.Spec L2
local macro_rules | `(tactic| walk_at "sz") => `(tactic| first | assumption | decide | omega)
local macro_rules | `(tactic| walk_at "call") => `(tactic| fail "no call")
local macro_rules | `(tactic| walk_at "cb") => `(tactic| first
  | with_reducible exact gcd_D | with_reducible exact len_T | with_reducible exact len_L | with_reducible exact tuple_L | with_reducible exact tuple_T | with_reducible exact max_D | with_reducible exact min_D | with_reducible exact abs_D
  | with_reducible exact int_D | with_reducible exact int_B)
local macro_rules | `(tactic| walk_at "op") => `(tactic| first
  | with_reducible exact minus_int | with_reducible exact plus_int | ((with_reducible apply times_int); walk_at "sz") | ((with_reducible apply ix_tupD); exact rfl) | ((with_reducible apply ix_lstD); exact rfl)
  | with_reducible exact lt_intD | with_reducible exact le_intD | with_reducible exact gt_intD | with_reducible exact ge_intD
  | ((with_reducible apply eq_D) <;> first | exact rfl | exact fr_shaped _ | assumption) | ((with_reducible apply ne_D) <;> first | exact rfl | exact fr_shaped _ | assumption)
  | ((with_reducible apply fdiv_int); walk_at "sz") | ((with_reducible apply fmod_int); walk_at "sz")
  | ((with_reducible apply plus_tup); walk_at "sz") | ((with_reducible apply plus_lst); walk_at "sz"))
local macro_rules | `(tactic| walk_at "evs") => `(tactic| first
  | with_reducible exact evds_nil
  | ((with_reducible apply evds_cons); (· walk_at "ev"); (· walk_at "evs")))
local macro_rules | `(tactic| walk_at "ev") => `(tactic| first
  | assumption
  | ((with_reducible apply evd_var); exact rfl)
  | with_reducible exact evd_int | with_reducible exact evd_cst | with_reducible exact evd_non | with_reducible exact evd_bl
  | ((with_reducible apply evd_op); (· walk_at "ev"); (· walk_at "ev"); (· walk_at "op"))
  | ((with_reducible apply evd_un); (· walk_at "ev"); (· with_reducible exact neg_intD))
  | ((with_reducible apply evd_call); (· walk_at "evs"); (· walk_at "call"))
  | ((with_reducible apply evd_cb); (· walk_at "evs"); (· walk_at "cb"))
  | ((with_reducible apply evd_tup); (· walk_at "evs"); (· exact Nat.le_of_ble_eq_true rfl))
  | ((with_reducible apply evd_isN); walk_at "ev") | ((with_reducible apply evd_notN); walk_at "ev")
  | ((with_reducible apply evd_not); walk_at "ev"))
local macro_rules | `(tactic| walk_at "te") => `(tactic| first
  | ((with_reducible apply ted_test); walk_at "ev") | ((with_reducible apply ted_B); walk_at "ev") | ((with_reducible apply ted_not); walk_at "te"))

def preRight (ds : List PyData) : Prop := ds = []
def postRight (ds : List PyData) (d : PyData) : Prop := d = .bool true
def preOf (ds : List PyData) : Prop := ∃ xs : List PyData, ds = [.list xs] ∧ 1 ≤ xs.length ∧ xs.length ≤ 100
def postOf (ds : List PyData) (d : PyData) : Prop := ∃ xs : List PyData, ds = [.list xs] ∧ d ∈ xs
def muL : List Rat := [1, -1, 1 / 2, -1 / 2, 2, -2, 1 / 3, -3 / 2, 3, 0]
def preMuch (ds : List PyData) : Prop := ds = []
def postMuch (ds : List PyData) (d : PyData) : Prop := ∃ x ∈ muL, d = fr x
def preRow (ds : List PyData) : Prop := ∃ (m : Nat) (l : Int), ds = [.int (m : Nat), .int l] ∧ (m = 2 ∨ m = 3) ∧ 0 ≤ l ∧ l ≤ 3
def postRow (ds : List PyData) (d : PyData) : Prop := ∃ (m : Nat) (l : Int) (R : Row), ds = [.int (m : Nat), .int l] ∧ d = rw_ R ∧ (R.length : Int) = l ∧ RowP m 3 R
def prePair (ds : List PyData) : Prop := ∃ m : Nat, ds = [.int (m : Nat)] ∧ (m = 2 ∨ m = 3)
def postPair (ds : List PyData) (d : PyData) : Prop := ∃ (m : Nat) (r s : Row), ds = [.int (m : Nat)] ∧ d = .tuple [rw_ r, rw_ s] ∧ Drawn m r s
theorem mu_bq : ∀ x ∈ muL, Bq 6 18 x := fun x hx => by
  have : RowS 1 18 [(0, x)] := by
    have key : ∀ x ∈ muL, rowsB 1 18 [(0, x)] = true := by decide +kernel
    exact rows_of (key x hx)
  exact this.xs (0, x) (.head _)
theorem mu_data : muL.map fr = [.tuple [.int 1, .int 1], .tuple [.int (-1), .int 1], .tuple [.int 1, .int 2], .tuple [.int (-1), .int 2], .tuple [.int 2, .int 1], .tuple [.int (-2), .int 1], .tuple [.int 1, .int 3], .tuple [.int (-3), .int 2], .tuple [.int 3, .int 1], .tuple [.int 0, .int 1]] := by
  have f : ∀ (q : Rat) (a : Int) (b : Nat), (q.num = a ∧ q.den = b) → fr q = .tuple [.int a, .int (b : Int)] := fun q a b h => fr_lit q a b h.1 h.2
  show [fr 1, fr (-1), fr (1 / 2), fr (-1 / 2), fr 2, fr (-2), fr (1 / 3), fr (-3 / 2), fr 3, fr 0] = _
  rw [f 1 1 1 (by decide +kernel), f (-1) (-1) 1 (by decide +kernel), f (1 / 2) 1 2 (by decide +kernel), f (-1 / 2) (-1) 2 (by decide +kernel), f 2 2 1 (by decide +kernel), f (-2) (-2) 1 (by decide +kernel), f (1 / 3) 1 3 (by decide +kernel), f (-3 / 2) (-3) 2 (by decide +kernel), f 3 3 1 (by decide +kernel), f 0 0 1 (by decide +kernel)]
  rfl
section
variable {P : Program} {w : World} {K : PySem.W.Frag} {mg : Str → Option Value} {base : Heap} {T : Tb}
/-- one draw below a number -/
theorem take_lit {τ : List Sl} {k : Nat} {ta : TE} (no : noOwn τ = true) (h : EvD T K ta (.any :: τ) (.int (k : Int))) (k1 : 1 ≤ k) (k2 : k ≤ 100) : EvU T K 1 (tCall (spU T K 1 preTake postTake) [] E0 (tCons (tVar 0) (tCons ta tNil))) τ (fun d => ∃ r : Int, d = .int r ∧ 0 ≤ r ∧ r < k) :=
  evu_imp (evu_call (k1 := 0) (k2 := 1) (pre := preTake) (post := postTake) (evus_d (k := 0) (evds_cons h evds_nil)) no fun ds e => by subst e; exact ⟨k, rfl, by omega, by omega⟩) fun d hd => by
    obtain ⟨ds, rfl, k', r, e, ed, h0, h1⟩ := hd
    cases e
    exact ⟨r, ed, h0, h1⟩
theorem much_ev {τ : List Sl} (no : noOwn τ = true) : EvU T K 1 (tCall (spU T K 1 preMuch postMuch) [] E0 (tCons (tVar 0) tNil)) τ (fun d => ∃ x ∈ muL, d = fr x) :=
  evu_imp (evu_call (k1 := 0) (k2 := 1) (pre := preMuch) (post := postMuch) evus_nil no fun ds e => e) fun d hd => by
    obtain ⟨ds, _, h⟩ := hd
    exact h
theorem sc__law_of : FnScope ["_law_urn", "_law_some_so"] ["_law_urn", "_law_some_so"] (defScope (top 72)) := ⟨rfl, rfl, rfl, by decide +kernel, rfl, by decide +kernel, by decide +kernel⟩
theorem d_law_of (C : CT P w K mg base T) : Df P w K mg base "_law_of" 2 ["_law_urn", "_law_some_so"] (spU T K 1 preOf postOf) := by
  refine df_ofU C (i := 54) (x := "_law_of") (N := ["_law_urn", "_law_some_so"]) (n := 0) rfl sc__law_of (fun _ _ _ _ _ _ us hl => match us, hl with | [_, _], _ => rfl) ?_ rfl fun cdv A outer s H E fa hr => ⟨_, (pss_one (ps_ret (pe_ix (ix_seqK K rfl) (pv 1) (pe_dfK (d_law_take C) rfl rfl rfl rfl rfl hr (by rfl) (pa_cons (pv 0) (pa_cons (pe_callB (call_lenK K rfl) (by rfl) (C.free 7 _ rfl) (by decide +kernel) (pa_cons (pv 1) pa_nil)) pa_nil))) (fun _ _ => rfl)))), ?_⟩
  · rintro _ ⟨xs, rfl, _⟩; rfl
  · rintro _ ⟨xs, rfl, k1, k2⟩
    refine stu_ret (evu_op (k1 := 0) (k2 := 1) (evu_d (evd_var (i := 1) rfl)) (take_lit (k := xs.length) rfl (evd_cb (evds_cons (evd_var (i := 1) rfl) evds_nil) len_L) k1 k2) fun a b ea hb => ?_)
    obtain ⟨r, rfl, r0, r1⟩ := hb
    subst ea
    have hr : r.toNat < xs.length := by omega
    have er : ((r.toNat : Nat) : Int) = r := by omega
    exact ⟨xs[r.toNat], er ▸ ix_lstD (at_nat (List.getElem?_eq_getElem hr)), xs, rfl, List.getElem_mem hr⟩
theorem sc__law_much : FnScope ["_law_urn"] ["_law_urn"] (defScope (top 80)) := ⟨rfl, rfl, rfl, by decide +kernel, rfl, by decide +kernel, by decide +kernel⟩
theorem d_law_much (C : CT P w K mg base T) : Df P w K mg base "_law_much" 3 ["_law_urn"] (spU T K 1 preMuch postMuch) := by
  refine df_ofU C (i := 62) (x := "_law_much") (N := ["_law_urn"]) (n := 0) rfl sc__law_much (fun _ _ _ _ _ _ us hl => match us, hl with | [_], _ => rfl) ?_ rfl fun cdv A outer s H E fa hr => ⟨_, (pss_one (ps_ret (pe_dfK (d_law_of C) rfl rfl rfl rfl rfl hr (by rfl) (pa_cons (pv 0) (pa_cons (pe_lst (pa_cons (pe_tup (pa_cons pe_int (pa_cons pe_int pa_nil))) (pa_cons (pe_tup (pa_cons (pe_un un_neg pe_int) (pa_cons pe_int pa_nil))) (pa_cons (pe_tup (pa_cons pe_int (pa_cons pe_int pa_nil))) (pa_cons (pe_tup (pa_cons (pe_un un_neg pe_int) (pa_cons pe_int pa_nil))) (pa_cons (pe_tup (pa_cons pe_int (pa_cons pe_int pa_nil))) (pa_cons (pe_tup (pa_cons (pe_un un_neg pe_int) (pa_cons pe_int pa_nil))) (pa_cons (pe_tup (pa_cons pe_int (pa_cons pe_int pa_nil))) (pa_cons (pe_tup (pa_cons (pe_un un_neg pe_int) (pa_cons pe_int pa_nil))) (pa_cons (pe_tup (pa_cons pe_int (pa_cons pe_int pa_nil))) (pa_cons (pe_tup (pa_cons pe_int (pa_cons pe_int pa_nil))) pa_nil))))))))))) pa_nil))))), ?_⟩
  · rintro _ rfl; rfl
  · rintro _ rfl
    have lit : ∀ (a b : Int) (τ : List Sl), EvD T K (tTup (tCons (tC (V.int a)) (tCons (tC (V.int b)) tNil))) τ (.tuple [.int a, .int b]) := fun a b τ => evd_tup (evds_cons evd_int (evds_cons evd_int evds_nil)) (Nat.le_of_ble_eq_true rfl)
    have neg : ∀ (a b : Int) (τ : List Sl), EvD T K (tTup (tCons (tUn (rU fun i => V.int (-i)) (tC (V.int a))) (tCons (tC (V.int b)) tNil))) τ (.tuple [.int (-a), .int b]) := fun a b τ => evd_tup (evds_cons (evd_un evd_int neg_intD) (evds_cons evd_int evds_nil)) (Nat.le_of_ble_eq_true rfl)
    refine stu_ret (evu_imp (evu_call (k1 := 0) (k2 := 1) (pre := preOf) (post := postOf) (evus_d (k := 0) (evds_cons (EvD.is (evf_lst (evds_cons (lit 1 1 _) (evds_cons (neg 1 1 _) (evds_cons (lit 1 2 _) (evds_cons (neg 1 2 _) (evds_cons (lit 2 1 _) (evds_cons (neg 2 1 _) (evds_cons (lit 1 3 _) (evds_cons (neg 3 2 _) (evds_cons (lit 3 1 _) (evds_cons (lit 0 1 _) evds_nil)))))))))) (Nat.le_of_ble_eq_true rfl)).ev (congrArg PyData.list mu_data.symm)) evds_nil)) rfl fun ds e => ?_) fun d hd => ?_)
    · subst e
      exact ⟨_, rfl, by decide, by decide⟩
    · obtain ⟨ds, rfl, xs, e, hm⟩ := hd
      cases e
      obtain ⟨x, hx, rfl⟩ := (List.mem_map.mp hm)
      exact ⟨x, hx, rfl⟩
theorem sc__law_row : FnScope ["_law_urn", "_law_many", "_law_long_so", "_law_lap"] ["_law_urn", "_law_many", "_law_long_so"] (defScope (top 81)) := ⟨rfl, rfl, rfl, by decide +kernel, rfl, by decide +kernel, by decide +kernel⟩
theorem d_law_row (C : CT P w K mg base T) : Df P w K mg base "_law_row" 4 ["_law_urn", "_law_many", "_law_long_so"] (spU T K 6 preRow postRow) := by
  refine df_ofU C (i := 63) (x := "_law_row") (N := ["_law_urn", "_law_many", "_law_long_so", "_law_lap"]) (n := 1) rfl sc__law_row (fun _ _ _ _ _ _ us hl => match us, hl with | [_, _, _], _ => rfl) ?_ rfl fun cdv A outer s H E fa hr => ⟨_, (pss_one (ps_ret (pe_callTy (call_tupleK K rfl) (by rfl) (C.free 16 _ rfl) (by decide +kernel) (pa_cons (pe_lc rfl sc__law_row.nd (pi_range1 (by rfl) (C.free 11 _ rfl) (pa_cons (pv 2) pa_nil)) (blkOk_by (own := [("_law_lap", 3)]) (by kernel_rfl)) (fun _ _ _ _ _ => (pg_name (i := 3) sc__law_row.nd rfl (by first | exact Or.inl rfl | exact Or.inr rfl))) (fun _ _ _ _ _ => pts_nil) (fun _ _ _ _ _ => (pe_tup (pa_cons (pe_dfK (d_law_take C) rfl rfl rfl rfl rfl hr (by rfl) (pa_cons (pv 0) (pa_cons (pv 1) pa_nil))) (pa_cons (pe_dfK (d_law_much C) rfl rfl rfl rfl rfl hr (by rfl) (pa_cons (pv 0) pa_nil)) pa_nil))))) pa_nil)))), ?_⟩
  · rintro _ ⟨m, l, rfl, _⟩; rfl
  · rintro _ ⟨m, l, rfl, hm, l0, l3⟩
    have en : (rngD 0 l.toNat).length = l.toNat := rngD_len _ _
    have lc := evu_lc (T := T) (K := K) (k := 2) (te := tTup (tCons (tCall (spU T K 1 preTake postTake) [] E0 (tCons (tVar 0) (tCons (tVar 1) tNil))) (tCons (tCall (spU T K 1 preMuch postMuch) [] E0 (tCons (tVar 0) tNil)) tNil))) (τ := [.dat (.int (m : Nat)), .dat (.int l), .any]) (g := gName 3) (vs := [3]) (js := [3]) (R := fun d => ∃ (a : Int) (x : Rat), d = pr (a, x) ∧ (0 ≤ a ∧ a < m) ∧ x ∈ muL) rfl (itd_rng1 (evds_cons (evd_var (i := 2) rfl) evds_nil) (by omega) (by omega)) (by decide) (by decide) (by rw [en]; omega) fun i d hd => by
      obtain ⟨hi, rfl⟩ := rngD_get hd
      refine ⟨[.dat (.int (m : Nat)), .dat (.int l), .dat (.int (0 + (i : Nat)))], rfl, tgd_name (i := 3), ?_⟩
      refine evu_imp (evu_tup (evus_cons (k1 := 1) (k2 := 1) (take_lit (k := m) rfl (evd_var (i := 1) rfl) (by omega) (by omega)) (evus_cons (k1 := 1) (k2 := 0) (much_ev rfl) evus_nil)) fun ds h => ?_) fun d h => ?_
      · obtain ⟨d1, ds1, rfl, _, d2, ds2, rfl, _, rfl⟩ := h
        exact Nat.le_of_ble_eq_true rfl
      · obtain ⟨ds, rfl, d1, ds1, rfl, ⟨r, rfl, r0, r1⟩, d2, ds2, rfl, ⟨x, hx, rfl⟩, rfl⟩ := h
        exact ⟨r, x, rfl, ⟨r0, r1⟩, hx⟩
    refine stu_more (k := 2 * (rngD 0 l.toNat).length) ?_ (by rw [en]; omega)
    refine stu_ret (evu_cb (evus_cons (k2 := 0) lc evus_nil) fun ds h => ?_)
    obtain ⟨d1, ds1, rfl, ⟨es, rfl, el, er⟩, rfl⟩ := h
    refine ⟨.tuple es, tuple_L, m, l, ?_⟩
    have row : ∀ es : List PyData, (∀ e ∈ es, ∃ (a : Int) (x : Rat), e = pr (a, x) ∧ (0 ≤ a ∧ a < m) ∧ x ∈ muL) → ∃ R : Row, es = R.map pr ∧ R.length = es.length ∧ ∀ p ∈ R, (0 ≤ p.1 ∧ p.1 < m) ∧ Bq 6 18 p.2 := fun es => by
      induction es with
      | nil => exact fun _ => ⟨[], rfl, rfl, fun p h => (nomatch h)⟩
      | cons e es ih =>
        intro h
        obtain ⟨a, x, rfl, ha, hx⟩ := h e (.head _)
        obtain ⟨R, rfl, hl, hR⟩ := ih fun e' he => h e' (.tail _ he)
        refine ⟨(a, x) :: R, rfl, by simp, fun p hp => ?_⟩
        cases hp with
        | head => exact ⟨ha, mu_bq x hx⟩
        | tail _ hp => exact hR p hp
    obtain ⟨R, rfl, hl, hR⟩ := row es er
    rw [List.length_map] at hl el
    refine ⟨R, rfl, rfl, by omega, by omega, hR⟩
theorem row_ev {m lo : Nat} (hm : m = 2 ∨ m = 3) {te : TE} {τ : List Sl} (no : noOwn τ = true) (e1 : (.any :: τ : List Sl)[1]? = some (.dat (.int (m : Nat)))) (h : EvU T K 1 te τ (fun d => ∃ l : Int, d = .int l ∧ (lo : Int) ≤ l ∧ l ≤ 3)) :
    EvU T K 7 (tCall (spU T K 6 preRow postRow) [] E0 (tCons (tVar 0) (tCons (tVar 1) (tCons te tNil)))) τ (fun d => ∃ R : Row, d = rw_ R ∧ RowP m 3 R ∧ lo ≤ R.length) :=
  evu_imp (evu_call (k1 := 0 + (1 + 0)) (k2 := 6) (pre := preRow) (post := postRow) (evus_cons (k1 := 0) (evu_d (evd_var e1)) (evus_cons (k1 := 1) (k2 := 0) h evus_nil)) no fun ds e => by
    obtain ⟨d1, ds1, rfl, rfl, d2, ds2, rfl, ⟨l, rfl, l0, l3⟩, rfl⟩ := e
    exact ⟨m, l, rfl, hm, by omega, l3⟩) fun d hd => by
    obtain ⟨ds, ⟨d1, ds1, rfl, rfl, d2, ds2, rfl, ⟨l, rfl, l0, l3⟩, rfl⟩, m', l', R, e, rfl, hl, hR⟩ := hd
    have e1 : m' = m := by
      injection e with e _
      injection e with e
      omega
    have e2 : l' = l := by
      injection e with _ e
      injection e with e _
      injection e with e
      exact e.symm
    subst e1
    subst e2
    exact ⟨R, rfl, hR, by omega⟩
theorem cut1 {R : Row} (h1 : 1 ≤ R.length) (h3 : R.length ≤ 3) : cutD (R.map pr) none (some 1) = (R.take 1).map pr ∧ cutD (R.map pr) (some 1) none = (R.drop 1).map pr := by
  match R, h1, h3 with
  | [a], _, _ => exact ⟨rfl, rfl⟩
  | [a, b], _, _ => exact ⟨rfl, rfl⟩
  | [a, b, c], _, _ => exact ⟨rfl, rfl⟩
theorem RowP.smr {m n : Nat} {R : Row} (h : RowP m n R) : SmR R := fun p hp => q_sm (h.ok p hp).2 (by decide)
theorem sc__law_pair : FnScope ["_law_urn", "_law_many", "_law_kind", "_law_row_so", "_law_ring_so", "_law_one", "_law_two"] ["_law_urn", "_law_many"] (defScope (top 83)) := ⟨rfl, rfl, rfl, by decide +kernel, rfl, by decide +kernel, by decide +kernel⟩
theorem d_law_pair (C : CT P w K mg base T) : Df P w K mg base "_law_pair" 5 ["_law_urn", "_law_many"] (spU T K 100 prePair postPair) := by
  refine df_ofU C (i := 65) (x := "_law_pair") (N := ["_law_urn", "_law_many", "_law_kind", "_law_row_so", "_law_ring_so", "_law_one", "_law_two"]) (n := 5) rfl sc__law_pair (fun _ _ _ _ _ _ us hl => match us, hl with | [_, _], _ => rfl) ?_ rfl fun cdv A outer s H E fa hr => ⟨_, (pss_cons (ps_set (i := 2) sc__law_pair.nd rfl (by first | exact Or.inl rfl | exact Or.inr rfl) (pe_dfK (d_law_take C) rfl rfl rfl rfl rfl hr (by rfl) (pa_cons (pv 0) (pa_cons pe_int pa_nil))))
  (pss_cons (ps_set (i := 3) sc__law_pair.nd rfl (by first | exact Or.inl rfl | exact Or.inr rfl) (pe_dfK (d_law_row C) rfl rfl rfl rfl rfl hr (by rfl) (pa_cons (pv 0) (pa_cons (pv 1) (pa_cons (pe_op (op_plusK K rfl) pe_int (pe_dfK (d_law_take C) rfl rfl rfl rfl rfl hr (by rfl) (pa_cons (pv 0) (pa_cons pe_int pa_nil)))) pa_nil)))))
  (pss_cons (ps_if (pt_cmpR (op_eqK K rfl hr.units) (pv 2) pe_int (nomark _)) (pss_one (ps_ret (pe_tup (pa_cons (pv 3) (pa_cons (pe_dfK (d_law_row C) rfl rfl rfl rfl rfl hr (by rfl) (pa_cons (pv 0) (pa_cons (pv 1) (pa_cons (pe_dfK (d_law_take C) rfl rfl rfl rfl rfl hr (by rfl) (pa_cons (pv 0) (pa_cons pe_int pa_nil))) pa_nil)))) pa_nil))))) pss_nil)
  (pss_cons (ps_par (i := 5) (j := 6) rfl sc__law_pair.nd rfl rfl (by decide) rfl rfl (pa_cons (pe_tup (pa_cons pe_int (pa_cons (pe_dfK (d_law_much C) rfl rfl rfl rfl rfl hr (by rfl) (pa_cons (pv 0) pa_nil)) pa_nil))) (pa_cons (pe_tup (pa_cons (pe_op op_sub (pv 1) pe_int) (pa_cons (pe_dfK (d_law_much C) rfl rfl rfl rfl rfl hr (by rfl) (pa_cons (pv 0) pa_nil)) pa_nil))) pa_nil)) (by rfl))
  (pss_cons (ps_if (pt_cmpR (op_eqK K rfl hr.units) (pv 2) pe_int (nomark _)) (pss_one (ps_ret (pe_tup (pa_cons (pv 3) (pa_cons (pe_op (op_plusK K rfl) (pe_op (op_plusK K rfl) (pe_slice (sl_seqK K rfl) (pv 3) po_none (po_some pe_int)) (pe_tup (pa_cons (pv 5) (pa_cons (pe_tup (pa_cons (pe_ix (ix_seqK K rfl) (pv 5) pe_int (fun _ _ => rfl)) (pa_cons (pe_tup (pa_cons (pe_op op_sub pe_int (pe_ix (ix_seqK K rfl) (pe_ix (ix_seqK K rfl) (pv 5) pe_int (fun _ _ => rfl)) pe_int (fun _ _ => rfl))) (pa_cons (pe_ix (ix_seqK K rfl) (pe_ix (ix_seqK K rfl) (pv 5) pe_int (fun _ _ => rfl)) pe_int (fun _ _ => rfl)) pa_nil))) pa_nil))) pa_nil)))) (pe_slice (sl_seqK K rfl) (pv 3) (po_some pe_int) po_none)) pa_nil))))) pss_nil)
  (pss_cons (ps_set (i := 4) sc__law_pair.nd rfl (by first | exact Or.inl rfl | exact Or.inr rfl) (pe_dfK (d_law_bracket C) rfl rfl rfl rfl rfl hr (by rfl) (pa_cons (pe_tup (pa_cons (pv 5) pa_nil)) (pa_cons (pe_tup (pa_cons (pv 6) pa_nil)) pa_nil))))
  (pss_cons (ps_if (pt_cmpR (op_eqK K rfl hr.units) (pv 2) pe_int (nomark _)) (pss_one (ps_set (i := 4) sc__law_pair.nd rfl (by first | exact Or.inl rfl | exact Or.inr rfl) (pe_dfK (d_law_bracket C) rfl rfl rfl rfl rfl hr (by rfl) (pa_cons (pv 4) (pa_cons (pe_tup (pa_cons (pv 5) pa_nil)) pa_nil))))) pss_nil)
  (pss_cons (ps_if (pt_cmpR (op_eqK K rfl hr.units) (pv 2) pe_int (nomark _)) (pss_one (ps_ret (pe_tup (pa_cons (pe_op (op_plusK K rfl) (pv 3) (pe_tup (pa_cons (pv 6) pa_nil))) (pa_cons (pe_op (op_plusK K rfl) (pe_tup (pa_cons (pv 6) pa_nil)) (pv 3)) pa_nil))))) pss_nil)
  (pss_one (ps_ret (pe_ifExp (pt_cmpR op_lt (pv 2) pe_int (nomark _)) (pe_tup (pa_cons (pe_slice (sl_seqK K rfl) (pv 3) po_none (po_some pe_int)) (pa_cons (pe_op (op_plusK K rfl) (pe_slice (sl_seqK K rfl) (pv 3) po_none (po_some pe_int)) (pv 4)) pa_nil))) (pe_tup (pa_cons (pe_op (op_plusK K rfl) (pv 4) (pe_slice (sl_seqK K rfl) (pv 3) po_none (po_some pe_int))) (pa_cons (pe_slice (sl_seqK K rfl) (pv 3) po_none (po_some pe_int)) pa_nil)))))))))))))), ?_⟩
  · rintro _ ⟨m, rfl, _⟩; rfl
  · rintro _ ⟨m, rfl, hm⟩
    let τ : Sl → Sl → Sl → Sl → Sl → List Sl := fun k r g o t => [.dat (.int (m : Nat)), k, r, g, o, t]
    show StU T K 100 _ (τ .any .any .any .any .any) _
    refine stu_more (k := 1 + (7 + 7)) ?_ (by decide)
    refine stu_asg (i := 1) (k1 := 1) (k2 := 7 + 7) (take_lit (k := 6) rfl evd_int (by decide) (by decide)) ?_
    rintro _ ⟨κ, rfl, κ0, κ6⟩
    let kS : Sl := .dat (.int κ)
    refine stu_asg (i := 2) (k1 := 7) (k2 := 7) (row_ev (lo := 1) (τ := τ kS .any .any .any .any) hm rfl rfl (evu_op (k1 := 0) (k2 := 1) (evu_d evd_int) (take_lit (k := 3) rfl evd_int (by decide) (by decide)) fun a b ha hb => ?_)) ?_
    · subst ha
      obtain ⟨r, rfl, r0, r3⟩ := hb
      exact ⟨_, plus_int, _, rfl, by omega, by omega⟩
    rintro _ ⟨R, rfl, hR, R1⟩
    have R3 := hR.len
    obtain ⟨ct, cd⟩ := cut1 R1 R3
    let rS : Sl := .dat (rw_ R)
    have tst : ∀ (c : Int) (g o t : Sl), TeD T K (tTest (tOp (rEqD K) (tVar 2) (tC (V.int c)))) (.any :: τ kS rS g o t) (decide (κ = c)) := fun c g o t => TeD.is (ted_test (evd_op (evd_var (i := 2) rfl) evd_int (eq_D rfl rfl))) (eqv_int _ _)
    refine stu_if (k := 7) (tst 0 .any .any .any) (fun h0 => ?_) fun h0 => ?_
    · refine stu_seqR (stu_ret (evu_imp (evu_tup (evus_cons (k1 := 0) (k2 := 7) (evu_d (evd_var (i := 3) rfl)) (evus_cons (k1 := 7) (k2 := 0) (row_ev (lo := 0) (τ := τ kS rS .any .any .any) hm rfl rfl (evu_imp (take_lit (k := 4) rfl evd_int (by decide) (by decide)) fun d hd => ?_)) evus_nil)) fun ds h => ?_) fun d h => ?_))
      · obtain ⟨r, rfl, r0, r3⟩ := hd
        exact ⟨r, rfl, by omega, by omega⟩
      · obtain ⟨d1, ds1, rfl, _, d2, ds2, rfl, _, rfl⟩ := h
        exact Nat.le_of_ble_eq_true rfl
      · obtain ⟨ds, rfl, d1, ds1, rfl, rfl, d2, ds2, rfl, ⟨S, rfl, hS, _⟩, rfl⟩ := h
        exact ⟨m, R, S, rfl, rfl, .k0 hR hS⟩
    refine stu_next (stu_more (k := 2 + 0) ?_ (by decide))
    refine stu_par (i := 4) (j := 5) (k1 := 2) (k2 := 0) (Rs := fun ds => ∃ x y : Rat, ds = [pr (0, x), pr ((m : Int) - 1, y)] ∧ Bq 6 18 x ∧ Bq 6 18 y) ?par fun ds h => ?_
    case par =>
      have e1 := evus_cons (T := T) (K := K) (k1 := 0 + (1 + 0)) (evu_tup (evus_cons (k1 := 0) (evu_d (τ := τ kS rS .any .any .any) (evd_int (i := 0))) (evus_cons (k1 := 1) (k2 := 0) (much_ev rfl) evus_nil)) fun ds h => by
          obtain ⟨d1, ds1, rfl, _, d2, ds2, rfl, _, rfl⟩ := h
          exact Nat.le_of_ble_eq_true rfl) (evus_cons (k1 := 0 + (1 + 0)) (k2 := 0) (evu_tup (evus_cons (k1 := 0) (evu_d (τ := τ kS rS .any .any .any) (evd_op (evd_var (i := 1) rfl) (evd_int (i := 1)) minus_int)) (evus_cons (k1 := 1) (k2 := 0) (much_ev rfl) evus_nil)) fun ds h => by
          obtain ⟨d1, ds1, rfl, _, d2, ds2, rfl, _, rfl⟩ := h
          exact Nat.le_of_ble_eq_true rfl) evus_nil)
      refine fun m' p xs H0 G H σ s t u x Q q => e1 m' p xs H0 G H σ s t u x Q fun vs ds ys H1 G' H' g u' x' r qa => q vs ds ys H1 G' H' g u' x' ?_ qa
      obtain ⟨d1, ds1, rfl, ⟨es, rfl, c1, cs1, rfl, rfl, c2, cs2, rfl, ⟨x, hx, rfl⟩, rfl⟩, d2, ds2, rfl, ⟨es', rfl, c1', cs1', rfl, rfl, c2', cs2', rfl, ⟨y, hy, rfl⟩, rfl⟩, rfl⟩ := r
      exact ⟨x, y, rfl, mu_bq x hx, mu_bq y hy⟩
    obtain ⟨x, y, rfl, hx, hy⟩ := h
    refine ⟨_, _, rfl, ?_⟩
    let oS : Sl := .dat (pr (0, x))
    let tS : Sl := .dat (pr ((m : Int) - 1, y))
    have slT : ∀ (g : Sl), EvD T K (tSl (rSl K) (tVar 3) tNoPart (tPart (tC (V.int 1)))) (.any :: τ kS rS g oS tS) (.tuple ((R.take 1).map pr)) := fun g => EvD.is (evd_slT (xs := R.map pr) (evd_var (i := 3) rfl) evo_none (evo_some (evd_int (i := 1)))) (congrArg PyData.tuple ct)
    have slD : ∀ (g : Sl), EvD T K (tSl (rSl K) (tVar 3) (tPart (tC (V.int 1))) tNoPart) (.any :: τ kS rS g oS tS) (.tuple ((R.drop 1).map pr)) := fun g => EvD.is (evd_slT (xs := R.map pr) (evd_var (i := 3) rfl) (evo_some (evd_int (i := 1))) evo_none) (congrArg PyData.tuple cd)
    have len1 : ((R.take 1).map pr).length ≤ 3 := by rw [List.length_map, List.length_take]; omega
    have len2 : ((R.drop 1).map pr).length ≤ 3 := by rw [List.length_map, List.length_drop]; omega
    have en : fr (-x) = .tuple [.int (0 - x.num), .int x.den] := by
      unfold fr
      rw [Rat.neg_num, Rat.neg_den, Int.zero_sub]
    have pR : ∀ (a b : Row) , postPair [.int (m : Nat)] (.tuple [rw_ a, rw_ b]) ↔ ∃ r s : Row, PyData.tuple [rw_ a, rw_ b] = .tuple [rw_ r, rw_ s] ∧ Drawn m r s := fun a b => by
      constructor
      · rintro ⟨m', r, s, e, h, dr⟩
        have e1 : m' = m := by
          injection e with e _
          injection e with e
          omega
        subst e1
        exact ⟨r, s, h, dr⟩
      · rintro ⟨r, s, h, dr⟩
        exact ⟨m, r, s, rfl, h, dr⟩
    refine stu_if (k := 0) (tst 1 .any oS tS) (fun h1 => ?_) fun h1 => stu_next ?_
    · refine stu_seqR (stu_ret (evu_imp (evu_d (d := .tuple [rw_ R, rw_ (R.take 1 ++ [(0, x), (0, -x)] ++ R.drop 1)]) (evd_tup (evds_cons (evd_var (i := 3) rfl) (evds_cons (EvD.is (evd_op (evd_op (slT .any) (evd_tup (ds := [pr (0, x), pr (0, -x)]) (evds_cons (evd_var (i := 5) rfl) (evds_cons ?_ evds_nil)) (Nat.le_of_ble_eq_true rfl)) (plus_tup (by simp; omega))) (slD .any) (plus_tup (by simp; omega))) ?_) evds_nil)) (Nat.le_of_ble_eq_true rfl))) fun d hd => ?_))
      · show EvD T K _ _ (.tuple [.int 0, fr (-x)])
        rw [en]
        exact evd_tup (evds_cons (evd_op (evd_var (i := 5) rfl) evd_int (ix_tupD rfl)) (evds_cons (evd_tup (evds_cons (evd_op evd_int (evd_op (evd_op (evd_var (i := 5) rfl) evd_int (ix_tupD (c := fr x) rfl)) evd_int (ix_tupD rfl)) minus_int) (evds_cons (evd_op (evd_op (evd_var (i := 5) rfl) evd_int (ix_tupD (c := fr x) rfl)) evd_int (ix_tupD rfl)) evds_nil)) (Nat.le_of_ble_eq_true rfl)) evds_nil)) (Nat.le_of_ble_eq_true rfl)
      · show PyData.tuple ((R.take 1).map pr ++ [pr (0, x), pr (0, -x)] ++ (R.drop 1).map pr) = PyData.tuple ((R.take 1 ++ [(0, x), (0, -x)] ++ R.drop 1).map pr)
        rw [List.map_append, List.map_append]; rfl
      · subst hd
        exact (pR _ _).mpr ⟨_, _, rfl, .k1 hR hx⟩
    have p1 : RowP m 1 [(0, x)] := .one (by omega) hx
    have p2 : RowP m 1 [((m : Int) - 1, y)] := .one (by omega) hy
    let B1 := brk [(0, x)] [((m : Int) - 1, y)]
    let B2 := brk B1 [(0, x)]
    have pB1 : RowP m (1 + 1 + 1 + 1) B1 := p1.brk p2
    obtain ⟨a, r, ea⟩ : ∃ (a : Int) (r : Rat), R.take 1 = [(a, r)] := by
      cases R with
      | nil => exact absurd R1 (by decide)
      | cons p R => exact ⟨p.1, p.2, rfl⟩
    have pa : RowP m 1 [(a, r)] := ea ▸ hR.sub (S := R.take 1) (by rw [List.length_take]; omega) (fun p hp => List.mem_of_mem_take hp) |> fun h => ⟨Nat.le_of_ble_eq_true rfl, h.ok⟩
    have oneE : ∀ g, EvD T K (tTup (tCons (tVar 5) tNil)) (.any :: τ kS rS g oS tS) (rw_ [(0, x)]) := fun g => evd_tup (evds_cons (evd_var (i := 5) rfl) evds_nil) (Nat.le_of_ble_eq_true rfl)
    have twoE : ∀ g, EvD T K (tTup (tCons (tVar 6) tNil)) (.any :: τ kS rS g oS tS) (rw_ [((m : Int) - 1, y)]) := fun g => evd_tup (evds_cons (evd_var (i := 6) rfl) evds_nil) (Nat.le_of_ble_eq_true rfl)
    refine stu_asg (i := 3) (k1 := 0) (k2 := 0) (evu_d (d := rw_ B1) (evd_call (evds_cons (oneE .any) (evds_cons (twoE .any) evds_nil)) (c_brk (Nat.le_of_ble_eq_true rfl) (Nat.le_of_ble_eq_true rfl) p1.smr p2.smr))) ?_
    rintro _ rfl
    have last : ∀ (B : Row), B.length ≤ 20 → (κ = 2 → B = B2) → (κ ≠ 2 → B = B1) → StU T K 0 (tSeq (tIfS (tTest (tOp (rEqD K) (tVar 2) (tC (V.int 3))))
                        (tRet
                          (tTup
                            (tCons (tOp (rPlus K) (tVar 3) (tTup (tCons (tVar 6) tNil)))
                              (tCons (tOp (rPlus K) (tTup (tCons (tVar 6) tNil)) (tVar 3)) tNil))))
                        tNext)
                      (tRet
                        (tIf (tTest (tOp (rI0 fun i j => V.bl (decide (i < j))) (tVar 2) (tC (V.int 5))))
                          (tTup
                            (tCons (tSl (rSl K) (tVar 3) tNoPart (tPart (tC (V.int 1))))
                              (tCons (tOp (rPlus K) (tSl (rSl K) (tVar 3) tNoPart (tPart (tC (V.int 1)))) (tVar 4))
                                tNil)))
                          (tTup
                            (tCons (tOp (rPlus K) (tVar 4) (tSl (rSl K) (tVar 3) tNoPart (tPart (tC (V.int 1)))))
                              (tCons (tSl (rSl K) (tVar 3) tNoPart (tPart (tC (V.int 1)))) tNil)))))) (τ kS rS (.dat (rw_ B)) oS tS) (postPair [.int (m : Nat)]) := fun B lB b2 b1 => by
      refine stu_if (k := 0) (tst 3 (.dat (rw_ B)) oS tS) (fun h3 => ?_) fun h3 => stu_next ?_
      · refine stu_seqR (stu_ret (evu_imp (evu_d (d := .tuple [rw_ (R ++ [((m : Int) - 1, y)]), rw_ ([((m : Int) - 1, y)] ++ R)]) (evd_tup (evds_cons (EvD.is (evd_op (evd_var (i := 3) rfl) (twoE _) (plus_tup (by simp; omega))) ?_) (evds_cons (EvD.is (evd_op (twoE _) (evd_var (i := 3) rfl) (plus_tup (by simp; omega))) ?_) evds_nil)) (Nat.le_of_ble_eq_true rfl))) fun d hd => ?_))
        · show PyData.tuple (R.map pr ++ [pr ((m : Int) - 1, y)]) = PyData.tuple ((R ++ [((m : Int) - 1, y)]).map pr)
          rw [List.map_append]; rfl
        · rfl
        · subst hd
          exact (pR _ _).mpr ⟨_, _, rfl, .k3 hR hy⟩
      · have ltE : TeD T K (tTest (tOp (rI0 fun i j => V.bl (decide (i < j))) (tVar 2) (tC (V.int 5)))) (.any :: τ kS rS (.dat (rw_ B)) oS tS) (decide (κ < 5)) := ted_test (evd_op (evd_var (i := 2) rfl) evd_int lt_intD)
        by_cases h5 : κ < 5
        · refine stu_ret (evu_imp (evu_d (d := .tuple [rw_ [(a, r)], rw_ ([(a, r)] ++ B)]) (evd_if (x := true) (TeD.is ltE (decide_eq_true h5)) (fun _ => evd_tup (evds_cons (EvD.is (slT _) (by rw [ea])) (evds_cons (EvD.is (evd_op (slT _) (evd_var (i := 4) rfl) (plus_tup (by simp; omega))) (by rw [ea]; rfl)) evds_nil)) (Nat.le_of_ble_eq_true rfl)) fun h => by cases h)) fun d hd => ?_)
          subst hd
          refine (pR _ _).mpr ⟨_, _, rfl, ?_⟩
          by_cases h2 : κ = 2
          · rw [b2 h2]; exact .k2 pa hx hy
          · rw [b1 h2]; exact .k4 pa hx hy
        · refine stu_ret (evu_imp (evu_d (d := .tuple [rw_ (B ++ [(a, r)]), rw_ [(a, r)]]) (evd_if (x := false) (TeD.is ltE (decide_eq_false h5)) (fun h => by cases h) fun _ => evd_tup (evds_cons (EvD.is (evd_op (evd_var (i := 4) rfl) (slT _) (plus_tup (by simp; omega))) (show PyData.tuple (B.map pr ++ (R.take 1).map pr) = PyData.tuple ((B ++ [(a, r)]).map pr) by rw [ea, ← List.map_append])) (evds_cons (EvD.is (slT _) (by rw [ea])) evds_nil)) (Nat.le_of_ble_eq_true rfl))) fun d hd => ?_)
          subst hd
          refine (pR _ _).mpr ⟨_, _, rfl, ?_⟩
          rw [b1 (by omega)]; exact .k5 pa hx hy
    refine stu_if (k := 0) (tst 2 (.dat (rw_ B1)) oS tS) (fun h2 => ?_) fun h2 => stu_next ?_
    · refine stu_asg (i := 3) (k1 := 0) (k2 := 0) (evu_d (d := rw_ B2) (evd_call (evds_cons (evd_var (i := 4) rfl) (evds_cons (oneE _) evds_nil)) (c_brk (Nat.le_trans pB1.len (by decide)) (Nat.le_of_ble_eq_true rfl) pB1.smr p1.smr))) ?_
      rintro _ rfl
      exact last B2 (Nat.le_trans (pB1.brk p1).len (by decide)) (fun _ => rfl) fun h => absurd (of_decide_eq_true h2) h
    · exact last B1 (Nat.le_trans pB1.len (by decide)) (fun h => absurd h (of_decide_eq_false h2)) fun _ => rfl
theorem sc__law_right : FnScope ["_law_urn", "_law_many", "_law_row_so", "_law_other_so"] ["_law_urn"] (defScope (top 93)) := ⟨rfl, rfl, rfl, by decide +kernel, rfl, by decide +kernel, by decide +kernel⟩
theorem d_law_right (C : CT P w K mg base T) : Df P w K mg base "_law_right" 16 ["_law_urn"] (spU T K 200 preRight postRight) := by
  refine df_ofU C (i := 75) (x := "_law_right") (N := ["_law_urn", "_law_many", "_law_row_so", "_law_other_so"]) (n := 3) rfl sc__law_right (fun _ _ _ _ _ _ us hl => match us, hl with | [_], _ => rfl) ?_ rfl fun cdv A outer s H E fa hr => ⟨_, (pss_cons (ps_set (i := 1) sc__law_right.nd rfl (by first | exact Or.inl rfl | exact Or.inr rfl) (pe_op (op_plusK K rfl) pe_int (pe_callTy call_int1 (by rfl) (C.free 5 _ rfl) (by decide +kernel) (pa_cons (pe_cmpR (op_eqK K rfl hr.units) (pe_dfK (d_law_take C) rfl rfl rfl rfl rfl hr (by rfl) (pa_cons (pv 0) (pa_cons pe_int pa_nil))) pe_int (nomark _)) pa_nil))))
  (pss_cons (ps_asg (pe_dfK (d_law_pair C) rfl rfl rfl rfl rfl hr (by rfl) (pa_cons (pv 0) (pa_cons (pv 1) pa_nil))) (pg_tupK K rfl (n := 2) rfl (pgs_cons (pg_name (i := 2) sc__law_right.nd rfl (by first | exact Or.inl rfl | exact Or.inr rfl)) (pgs_cons (pg_name (i := 3) sc__law_right.nd rfl (by first | exact Or.inl rfl | exact Or.inr rfl)) pgs_nil))))
  (pss_one (ps_ret (pe_dfK (d_law_case_right C) rfl rfl rfl rfl rfl hr (by rfl) (pa_cons (pv 2) (pa_cons (pv 3) (pa_cons (pv 1) pa_nil)))))))), ?_⟩
  · rintro _ rfl; rfl
  · rintro _ rfl
    refine stu_more (k := 1 + (100 + 0)) ?_ (by decide)
    refine stu_asg (i := 0) (k1 := 1) (R := fun d => ∃ m : Nat, d = .int (m : Nat) ∧ (m = 2 ∨ m = 3)) ?_ ?_
    · refine evu_op (k1 := 0) (k2 := 1) (evu_d evd_int) (evu_cb (evus_cons (k1 := 1) (k2 := 0) (evu_op (k1 := 1) (k2 := 0) (R := fun d => ∃ b : Bool, d = .bool b) (take_lit (k := 3) rfl evd_int (by decide) (by decide)) (evu_d evd_int) fun a b ha hb => ?_) evus_nil) (R := fun d => d = .int 0 ∨ d = .int 1) fun ds h => ?_) fun a b ha hb => ?_
      · obtain ⟨r, rfl, _⟩ := ha
        subst hb
        exact ⟨_, eq_D rfl rfl, _, rfl⟩
      · obtain ⟨d1, ds1, rfl, ⟨b, rfl⟩, rfl⟩ := h
        refine ⟨_, int_B, ?_⟩
        cases b
        · exact .inl rfl
        · exact .inr rfl
      · subst ha
        rcases hb with rfl | rfl
        · exact ⟨_, plus_int, 2, rfl, .inl rfl⟩
        · exact ⟨_, plus_int, 3, rfl, .inr rfl⟩
    · rintro _ ⟨m, rfl, hm⟩
      refine stu_asgT (i := 1) (j := 2) (k1 := 100) (k2 := 0) (evu_call (k1 := 0) (k2 := 100) (pre := prePair) (post := postPair) (evus_d (k := 0) (evds_cons (evd_var (i := 1) rfl) evds_nil)) rfl fun ds e => ?_) fun d hd => ?_
      · subst e; exact ⟨m, rfl, hm⟩
      · obtain ⟨ds, rfl, m', r, s, e, rfl, dr⟩ := hd
        have em : m' = m := by
          cases e; rfl
        subst em
        refine ⟨_, _, rfl, stu_ret (evu_imp (evu_d (evd_call (evds_cons (evd_var (i := 2) rfl) (evds_cons (evd_var (i := 3) rfl) (evds_cons (evd_var (i := 1) rfl) evds_nil))) (c_case (case_of hm dr dr.few)))) fun x hx => hx)⟩
end
end K37
namespace K37
open PySem PySem.Spec L2
local macro_rules | `(tactic| walk_at "sz") => `(tactic| first | assumption | decide | omega)
local macro_rules | `(tactic| walk_at "call") => `(tactic| fail "no call")
local macro_rules | `(tactic| walk_at "cb") => `(tactic| first
  | with_reducible exact gcd_D | with_reducible exact len_T | with_reducible exact len_L | with_reducible exact tuple_L | with_reducible exact tuple_T | with_reducible exact max_D | with_reducible exact min_D | with_reducible exact abs_D
  | with_reducible exact int_D | with_reducible exact int_B)
local macro_rules | `(tactic| walk_at "op") => `(tactic| first
  | with_reducible exact minus_int | with_reducible exact plus_int | ((with_reducible apply times_int); walk_at "sz") | ((with_reducible apply ix_tupD); exact rfl) | ((with_reducible apply ix_lstD); exact rfl)
  | with_reducible exact lt_intD | with_reducible exact le_intD | with_reducible exact gt_intD | with_reducible exact ge_intD
  | ((with_reducible apply eq_D) <;> first | exact rfl | exact fr_shaped _ | assumption) | ((with_reducible apply ne_D) <;> first | exact rfl | exact fr_shaped _ | assumption)
  | ((with_reducible apply fdiv_int); walk_at "sz") | ((with_reducible apply fmod_int); walk_at "sz")
  | ((with_reducible apply plus_tup); walk_at "sz") | ((with_reducible apply plus_lst); walk_at "sz"))
local macro_rules | `(tactic| walk_at "evs") => `(tactic| first
  | with_reducible exact evds_nil
  | ((with_reducible apply evds_cons); (· walk_at "ev"); (· walk_at "evs")))
local macro_rules | `(tactic| walk_at "ev") => `(tactic| first
  | assumption
  | ((with_reducible apply evd_var); exact rfl)
  | with_reducible exact evd_int | with_reducible exact evd_cst | with_reducible exact evd_non | with_reducible exact evd_bl
  | ((with_reducible apply evd_op); (· walk_at "ev"); (· walk_at "ev"); (· walk_at "op"))
  | ((with_reducible apply evd_un); (· walk_at "ev"); (· with_reducible exact neg_intD))
  | ((with_reducible apply evd_call); (· walk_at "evs"); (· walk_at "call"))
  | ((with_reducible apply evd_cb); (· walk_at "evs"); (· walk_at "cb"))
  | ((with_reducible apply evd_tup); (· walk_at "evs"); (· exact Nat.le_of_ble_eq_true rfl))
  | ((with_reducible apply evd_isN); walk_at "ev") | ((with_reducible apply evd_notN); walk_at "ev")
  | ((with_reducible apply evd_not); walk_at "ev"))
local macro_rules | `(tactic| walk_at "te") => `(tactic| first
  | ((with_reducible apply ted_test); walk_at "ev") | ((with_reducible apply ted_B); walk_at "ev") | ((with_reducible apply ted_not); walk_at "te"))

section
variable {T : Tb} {K : PySem.W.Frag} {ρ : List Sl} {te tb : TE} {ds es : List PyData} {d : PyData}
theorem evf_orL {k : Bool} (ha : EvF T K te ρ ds) (hk : k = !ds.isEmpty) (hb : k = false → EvF T K tb ρ es) (hc : k = true → es = ds) : EvF T K (tOrT K te tb) ρ es := fun H0 G H σ s t x Q q =>
  ha H0 G H σ s t x _ fun p vs G1 H1 g1 hp gp hl qa => by
    have hv : vs.isEmpty = ds.isEmpty := by
      have := qa.length
      cases vs <;> cases ds <;> simp_all
    refine ⟨k, .inl ⟨vs, SqL.of hl, by rw [hk, ← hv]⟩, ?_⟩
    cases k with
    | true =>
      rw [if_pos rfl]
      rw [hc rfl] at q
      exact q p vs G1 H1 g1 hp gp hl qa
    | false =>
      rw [if_neg (by decide)]
      exact hb rfl H0 G1 H1 σ g1.sub (g1.tabs t) (x.gw g1) Q fun p2 vs2 G2 H2 g2 hp2 gp2 hl2 qa2 => q p2 vs2 G2 H2 (g1.trans g2) (g1.ex.none_of hp2) gp2 hl2 qa2
theorem list_LF {xs : List PyData} : CbF T K (fun ws H Q => ∃ p ys, ws = [V.ref p] ∧ (SqL K H p ys ∨ SqT K H p ys) ∧ ∀ l, H l = none → Q (.ref l) (upd H l (.lst ys))) [.list xs] xs := fun G H vs s t x Q q => by
  cases x with | cons x1 x2 =>
  cases x2
  cases x1 with | lst e qa =>
  exact ⟨_, _, rfl, .inl (SqL.of (s.le _ _ e)), fun l hl => q l _ G _ (.newH s hl) hl (s.le.none_of hl) upd_same qa⟩
theorem En.scr0 {H0 G H : Hp} {σ : L2.St} {i : Nat} {a : Addr} {ns : List Int} (x : En K H0 G H σ ρ) (e : ρ[i]? = some (.scr a ns)) : σ[i]? = some (some (.ref a)) ∧ Sc K H0 H a (ns.map V.int) := by
  obtain ⟨o, e1, h⟩ := x.ok i _ e
  have : o = some (.ref a) := h.1
  subst this
  exact ⟨e1, h.2⟩
theorem evf_slScr {i : Nat} {a : Addr} {ns : List Int} {tl th : TO} {lo hi : Option Int} (e : ρ[i]? = some (.scr a ns)) (h1 : EvO T K tl ρ lo) (h2 : EvO T K th ρ hi) : EvF T K (tSl (rSl K) (tVar i) tl th) ρ (cutD (ns.map .int) lo hi) := fun H0 G H σ s t x Q q => by
  obtain ⟨e1, sc⟩ := x.scr0 e
  refine ⟨_, e1, ?_⟩
  refine h1 H0 G H σ s t x _ fun G1 H1 g1 => ?_
  refine h2 H0 G1 H1 σ g1.sub (g1.tabs t) (x.gw g1) _ fun G2 H2 g2 => ?_
  have g := g1.trans g2
  have sq : SqL K H2 a (ns.map V.int) := sql_le sc.2 fun o e n => g.keep e n
  exact .inl ⟨a, _, rfl, sq, fun p hp => q p _ G2 _ (g.trans (.newH g.sub hp)) (g.ex.none_of hp) (g.sub.le.none_of hp) upd_same ((dqInts ns).cut lo hi)⟩
end
/-- the script's numbers, put together -/
def cellZ (z : Int) (bs : List Int) : Nat → Int
  | 0 => z
  | i + 1 => cellZ z bs i + bs.getD i 0 * ((i : Int) + 2)
def spCells (T : Tb) (K : PySem.W.Frag) : Sp := fun vs H Q _ => ∃ (a : Addr) (ns : List Int), vs = [.ref a, .int 1] ∧ ns.length ≤ 63 ∧ LamX.Tabs T H ∧ SqL K H a (ns.map V.int) ∧ ∀ v z G' H', Gw T (fun _ => none) H G' H' → Dq K G' v (.list [.int z]) → Q v H'
def boxD (z : Int) : PyData := .list [.int ((z.natAbs : Int) * if (10 : Int) ^ 18 ≤ (z.natAbs : Int) then 1 else 0), .int (z.fmod 2305843009213693951 + 39373 * 0 + 88537), .int 0]
def fBox (ds : List PyData) (d : PyData) : Prop := ∃ z : Int, ds = [.list [.int z], .int 0] ∧ d = boxD z
def spLaw (T : Tb) (K : PySem.W.Frag) : Sp := fun vs H Q _ => ∃ (a : Addr) (ns : List Int), vs = [.ref a] ∧ ns.length ≤ 63 ∧ LamX.Tabs T H ∧ SqL K H a (ns.map V.int) ∧ ∀ H', Q (.bl true) H'
theorem box_un (z : Int) (m : Nat) (hm : m ≤ 1000000) : ∃ xs, boxD z = .list xs ∧ Un m xs := by
  refine ⟨_, rfl, _, _, _, rfl, ?_, ⟨?_, ?_⟩, by decide, by omega⟩
  · split <;> omega
  · have := Int.fmod_nonneg_of_pos z (show (0 : Int) < 2305843009213693951 by decide)
    omega
  · have := Int.fmod_lt_of_pos z (show (0 : Int) < 2305843009213693951 by decide)
    omega
theorem df_gen {P : Program} {w : World} {K : PySem.W.Frag} {mg : Str → Option Value} {base : Heap} {T : Tb} {fn : List He.DefD} {bl : List Str} {cons : List (Str × PyData)} {ld : He.DefD} {lq : Str} (C : Ct P w K mg base T fn bl cons ld lq) {i : Nat} {x : Str} {pr : Arguments} {bd : List Stmt} {sc : Scope}
    {N ps : List Str} {k : Nat} {sp : Sp} (h : fn[i]? = some ⟨(x, none), x, x, pr, bd, sc, [], []⟩) (S : FnScope N ps sc)
    (hb : ∀ (kV doc pm : Value) (an : Option Addr) (cdv ct : Value) (us : List Value), us.length = ps.length → bindArgs (PySem.W.fnOf x x pr bd sc .none kV doc pm an cdv ct) ⟨us, []⟩ = pure (ps.zip us))
    (hlen : ∀ vs H Q E, sp vs H Q E → vs.length = ps.length)
    (body : ∀ (cdv : Value) (A : Around) (outer : List Env) (s : Shared) (H : Hp) (E : XK) (fa : Addr), Room k (A.deeper (PyProof.Rows.envOfC x sc s.heap.objs.size fa cdv)) → ∃ t, PSs (cxOf CX0 P w K mg base N x sc fa cdv A outer s H E).nox bd t ∧ ∀ vs H Q E', sp vs H Q E' → t { nx := fun _ H' => Q .non H', rt := Q } (L2.start N vs) H) :
    Df P w K mg base x (k + 1) ps sp := by
  obtain ⟨fa, fd, F, hm⟩ := C.fnat i _ h
  refine ⟨fa, fd, F.ok S hlen (fun cdv A outer s H vs Q E hr hsp => ?_), hm, F.kp, ?_⟩
  · obtain ⟨t, ht, hs⟩ := body cdv A outer s H E fa hr
    exact ⟨t, ht.nox, hs vs H Q E hsp⟩
  · exact F.bindsN hb
section
variable {P : Program} {w : World} {K : PySem.W.Frag} {mg : Str → Option Value} {base : Heap} {T : Tb}
theorem sc__law_box : FnScope ["_law_script", "_law_k", "_law_bit_so"] ["_law_script", "_law_k"] (defScope (top 69)) := ⟨rfl, rfl, rfl, by decide +kernel, rfl, by decide +kernel, by decide +kernel⟩
theorem d_law_box (C : CT P w K mg base T) : Df P w K mg base "_law_box" 1 ["_law_script", "_law_k"] (spF T K fBox) := by
  refine df_of C (i := 51) (x := "_law_box") (N := ["_law_script", "_law_k", "_law_bit_so"]) (n := 1) rfl sc__law_box (fun _ _ _ _ _ _ us hl => match us, hl with | [_, _], _ => rfl) ?_ rfl fun cdv A outer s H E fa hr => ⟨_, (pss_cons (ps_set (i := 2) sc__law_box.nd rfl (by first | exact Or.inl rfl | exact Or.inr rfl) (pe_ifExp (pt_cmpR op_lt (pv 1) (pe_callB (call_lenK K rfl) (by rfl) (C.free 7 _ rfl) (by decide +kernel) (pa_cons (pv 0) pa_nil)) (nomark _)) (pe_ix (ix_seqK K rfl) (pv 0) (pv 1) (fun _ _ => rfl)) pe_int))
  (pss_one (ps_ret (pe_lst (pa_cons (pe_op (op_timesK K rfl) (pe_callB call_abs (by rfl) (C.free 0 _ rfl) (by decide +kernel) (pa_cons (pv 2) pa_nil)) (pe_callTy call_int1 (by rfl) (C.free 5 _ rfl) (by decide +kernel) (pa_cons (pe_cmpR op_ge (pe_callB call_abs (by rfl) (C.free 0 _ rfl) (by decide +kernel) (pa_cons (pv 2) pa_nil)) (pe_op op_pow pe_int pe_int) (nomark _)) pa_nil))) (pa_cons (pe_op (op_plusK K rfl) (pe_op (op_plusK K rfl) (pe_op op_modN (pe_callTy call_int1 (by rfl) (C.free 5 _ rfl) (by decide +kernel) (pa_cons (pv 2) pa_nil)) pe_int) (pe_op (op_timesK K rfl) pe_int (pv 1))) pe_int) (pa_cons pe_int pa_nil))))))), ?_⟩
  · rintro _ _ ⟨z, rfl, rfl⟩
    rfl
  · rintro _ _ ⟨z, rfl, rfl⟩
    have ez : EvD T K _ [.dat (.list [.int z]), .dat (.int 0), .any] (.int z) := evd_if (x := true) (tb := tC (V.int 0)) (TeD.is (ted_test (evd_op (evd_var (i := 1) rfl) (evd_cb (evds_cons (evd_var (i := 0) rfl) evds_nil) len_L) lt_intD)) rfl) (fun _ => evd_op (evd_var (i := 0) rfl) (evd_var (i := 1) rfl) (ix_lstD rfl)) fun h => by cases h
    refine std_seq (ρ1 := [.dat (.list [.int z]), .dat (.int 0), .dat (.int z)]) (std_asg (i := 2) ez) ?_
    have m1 : CMulX (z.natAbs : Int) (if decide ((10 : Int) ^ (18 : Int).toNat ≤ (z.natAbs : Int)) = true then 1 else 0) := .inr (.inr (by split <;> decide))
    have m2 : CMulX 39373 0 := .inr (.inr (by decide))
    refine std_ret (EvD.is (evf_lst (evds_cons (evd_op (evd_cb (evds_cons (evd_var (i := 2) rfl) evds_nil) abs_D) (evd_cb (evds_cons (evd_op (evd_cb (evds_cons (evd_var (i := 2) rfl) evds_nil) abs_D) (evd_op (evd_int (i := 10)) (evd_int (i := 18)) (pow_int ⟨by decide, by decide, by decide⟩)) ge_intD) evds_nil) int_B) (times_int m1)) (evds_cons (evd_op (evd_op (evd_op (evd_cb (evds_cons (evd_var (i := 2) rfl) evds_nil) int_D) evd_int (fmod_int (by decide))) (evd_op evd_int (evd_var (i := 1) rfl) (times_int m2)) plus_int) evd_int plus_int) (evds_cons evd_int evds_nil))) (Nat.le_of_ble_eq_true rfl)).ev ?_)
    unfold boxD
    simp only [decide_eq_true_eq]
    rfl
theorem sc__law_cells : FnScope ["_law_script", "_law_roof_so", "_law_bits_so", "_law_k", "_law_bit_so", "_law_at_so"] ["_law_script", "_law_roof_so"] (defScope (top 71)) := ⟨rfl, rfl, rfl, by decide +kernel, rfl, by decide +kernel, by decide +kernel⟩
theorem cut_int (ns : List Int) (lo hi : Option Int) : ∃ bs : List Int, cutD (ns.map .int) lo hi = bs.map .int ∧ bs.length ≤ ns.length := by
  unfold cutD
  rw [← List.map_drop, ← List.map_take]
  exact ⟨_, rfl, by rw [List.length_take, List.length_drop]; omega⟩
theorem cut_one (n : Int) (r : List Int) : cutD ((n :: r).map .int) none (some 1) = [.int n] := by
  unfold cutD HT.sIx
  simp
theorem enum_get {bs : List Int} {i : Nat} {d : PyData} (h : (enumD (bs.map .int))[i]? = some d) : ∃ b, bs[i]? = some b ∧ d = .tuple [.int (i : Nat), .int b] := by
  unfold enumD at h
  rw [List.getElem?_mapIdx, List.getElem?_map] at h
  cases hb : bs[i]? with
  | none => (rw [hb] at h; cases h)
  | some b =>
    rw [hb] at h
    cases h
    exact ⟨b, rfl, rfl⟩
theorem d_law_cells (C : CT P w K mg base T) : Df P w K mg base "_law_cells" 1 ["_law_script", "_law_roof_so"] (spCells T K) := by
  refine df_gen C (i := 53) (x := "_law_cells") (N := ["_law_script", "_law_roof_so", "_law_bits_so", "_law_k", "_law_bit_so", "_law_at_so"]) rfl sc__law_cells (fun _ _ _ _ _ _ us hl => match us, hl with | [_, _], _ => rfl) ?_ fun cdv A outer s H E fa hr => ⟨_, (pss_cons (ps_set (i := 2) sc__law_cells.nd rfl (by first | exact Or.inl rfl | exact Or.inr rfl) (pe_orTK K rfl (pe_callTy (call_listK K rfl) (by rfl) (C.free 8 _ rfl) (by decide +kernel) (pa_cons (pe_slice (sl_seqK K rfl) (pv 0) po_none (po_some (pv 1))) pa_nil)) (pe_one (pe_lst (pa_cons pe_int pa_nil)))))
  (pss_cons (ps_for PassesOwn.never rfl (pi_enumX K rfl (by rfl) (C.free 4 _ rfl) (pa_cons (pe_slice (sl_seqK K rfl) (pv 0) (po_some (pv 1)) (po_some pe_int)) pa_nil)) (pg_tupK K rfl (n := 2) rfl (pgs_cons (pg_name (i := 3) sc__law_cells.nd rfl (by first | exact Or.inl rfl | exact Or.inr rfl)) (pgs_cons (pg_name (i := 4) sc__law_cells.nd rfl (by first | exact Or.inl rfl | exact Or.inr rfl)) pgs_nil))) (pss_cons (ps_set (i := 5) sc__law_cells.nd rfl (by first | exact Or.inl rfl | exact Or.inr rfl) (pe_op op_modN (pe_callTy call_int1 (by rfl) (C.free 5 _ rfl) (by decide +kernel) (pa_cons (pv 3) pa_nil)) (pv 1)))
  (pss_one (ps_asg (pe_op (op_plusK K rfl) (pe_ix (ix_seqK K rfl) (pv 2) (pv 5) (fun _ _ => rfl)) (pe_op (op_timesK K rfl) (pv 4) (pe_op (op_plusK K rfl) (pv 3) pe_int))) (pg_sub (pv 2) (pv 5) set_list)))))
  (pss_one (ps_ret (pv 2))))), ?_⟩
  · rintro vs H Q E ⟨a, ns, rfl, _⟩; rfl
  · rintro vs H Q E ⟨a, ns, rfl, h63, tb, sq, q⟩
    have su : Sub (fun _ => none) H := ⟨fun a o e => (nomatch e), fun a o e => (nomatch e)⟩
    have x0 : En K H (fun _ => none) H (L2.start ["_law_script", "_law_roof_so", "_law_bits_so", "_law_k", "_law_bit_so", "_law_at_so"] [.ref a, .int 1]) [.scr a ns, .dat (.int 1), .any, .any, .any, .any] := by
      refine ⟨rfl, fun i sl e => ?_, fun i j di dj r hij ei ej => ?_⟩
      · match i, e with
        | 0, e => cases e; exact ⟨_, rfl, rfl, sq, sq⟩
        | 1, e => cases e; exact ⟨_, rfl, _, rfl, .int 1⟩
        | 2, e => cases e; exact ⟨_, rfl, trivial⟩
        | 3, e => cases e; exact ⟨_, rfl, trivial⟩
        | 4, e => cases e; exact ⟨_, rfl, trivial⟩
        | 5, e => cases e; exact ⟨_, rfl, trivial⟩
      · match i, ei with
        | 0, ei => cases ei
        | 1, ei => cases ei
        | 2, ei => cases ei
        | 3, ei => cases ei
        | 4, ei => cases ei
        | 5, ei => cases ei
    obtain ⟨bs, eb, lb⟩ := cut_int ns (some 1) (some 63)
    obtain ⟨z0, ez⟩ : ∃ z0 : Int, EvF T K (tOrT K (tCB _ (tCons (tSl (rSl K) (tVar 0) tNoPart (tPart (tVar 1))) tNil)) (tLst (tCons (tC (V.int 0)) tNil))) [.scr a ns, .dat (.int 1), .any, .any, .any, .any] [.int z0] := by
      have first : EvF T K (tCB _ (tCons (tSl (rSl K) (tVar 0) tNoPart (tPart (tVar 1))) tNil)) [.scr a ns, .dat (.int 1), .any, .any, .any, .any] (cutD (ns.map .int) none (some 1)) := evf_cb (evds_cons (evf_slScr (i := 0) rfl evo_none (evo_some (evd_var (i := 1) rfl))).ev evds_nil) list_LF
      cases ns with
      | nil => exact ⟨0, evf_orL (k := false) first rfl (fun _ => evf_lst (evds_cons evd_int evds_nil) (Nat.le_of_ble_eq_true rfl)) fun h => by cases h⟩
      | cons n r =>
        rw [cut_one] at first
        exact ⟨n, evf_orL (k := true) first rfl (fun h => by cases h) fun _ => rfl⟩
    let ρs : Nat → List Sl := fun i => [.scr a ns, .dat (.int 1), .own [.int (cellZ z0 bs i)], .any, .any, .any]
    refine (fun (main : StD T K _ [.scr a ns, .dat (.int 1), .any, .any, .any, .any] (.rt (.list [.int (cellZ z0 bs (enumD (bs.map .int)).length)]))) => main (fun _ => none) H _ (fun _ => none) H _ tb (.refl su) x0 fun v G' H' g qv => q v _ G' H' g qv) ?_
    refine std_seq (ρ1 := ρs 0) (std_asgF (i := 2) ez) ?_
    refine std_seq (ρ1 := ρs (enumD (bs.map .int)).length) (std_for (js := [3, 4]) ρs (itd_enum true (evds_cons (EvD.is (evf_slScr (i := 0) rfl (evo_some (evd_var (i := 1) rfl)) (evo_some (evd_int (i := 63)))).ev (congrArg PyData.list eb)) evds_nil)) fun i d hd => ?_) (std_share (i := 2) rfl (std_ret (evd_var (i := 2) rfl)))
    obtain ⟨b, hb, rfl⟩ := enum_get hd
    have hi : i < bs.length := (List.getElem?_eq_some_iff.mp hb).1
    refine ⟨_, tgd_tup2 tgd_name tgd_name, ?_⟩
    have f1 : ((i : Nat) : Int).fmod 1 = ((0 : Nat) : Int) := by rw [Int.fmod_eq_emod_of_nonneg _ (by decide), Int.emod_one]; rfl
    let σ : Sl → Sl → List Sl := fun o z => [.scr a ns, .dat (.int 1), o, .dat (.int (i : Nat)), .dat (.int b), z]
    refine std_seq (ρ1 := σ (.own [.int (cellZ z0 bs i)]) (.dat (.int ((0 : Nat) : Int)))) (std_asg (i := 5) (EvD.is (evd_op (evd_cb (evds_cons (evd_var (i := 3) rfl) evds_nil) int_D) (evd_var (i := 1) rfl) (fmod_int (by decide))) (congrArg PyData.int f1))) ?_
    have m1 : CMulX b ((i : Nat) + 2) := .inr (.inr (by constructor <;> omega))
    have ec : cellZ z0 bs (i + 1) = cellZ z0 bs i + b * ((i : Nat) + 2) := by
      show cellZ z0 bs i + bs.getD i 0 * ((i : Int) + 2) = _
      rw [List.getD_eq_getElem?_getD, hb]; rfl
    refine std_weakN (ρ1 := σ (.own [.int (cellZ z0 bs (i + 1))]) (.dat (.int ((0 : Nat) : Int)))) ?_ rfl ?_
    · rw [ec]
      exact std_setL (ρ := σ (.own [.int (cellZ z0 bs i)]) (.dat (.int ((0 : Nat) : Int)))) (i := 2) (k := 0) (ds := [.int (cellZ z0 bs i)]) rfl (evd_op (evd_ixOwn (i := 2) rfl (evd_var (i := 5) rfl) rfl) (evd_op (evd_var (i := 4) rfl) (evd_op (evd_var (i := 3) rfl) evd_int plus_int) (times_int m1)) plus_int) (evd_var (i := 5) rfl) (Nat.le_of_ble_eq_true rfl)
    · intro j s hj
      match j, hj with
      | 0, hj => exact .inr hj
      | 1, hj => exact .inr hj
      | 2, hj => exact .inr hj
      | 3, hj => cases hj; exact .inl rfl
      | 4, hj => cases hj; exact .inl rfl
      | 5, hj => cases hj; exact .inl rfl
theorem sc_law : FnScope ["_law_script"] ["_law_script"] (defScope (top 94)) := ⟨rfl, rfl, rfl, by decide +kernel, rfl, by decide +kernel, by decide +kernel⟩
/-- the law, over any function object that is its def's -/
theorem ok_law (C : CT P w K mg base T) {f : Addr} {fd : FuncData} (F : FunD K "law" "law" (defArgs (top 94)) (defBody (top 94)) (defScope (top 94)) [] [] f fd) : FnOk P w K mg base CX0 17 f fd ["_law_script"] (spLaw T K) := by
  refine F.ok sc_law ?_ fun cdv A outer s H vs Q E hr hsp => ⟨_, PSs.nox (pss_one (ps_ret (pe_and (pe_dfK0 (d_law_by_hand_right C) rfl rfl rfl rfl rfl hr (by rfl)) (pe_one (pe_dfK (d_law_right C) rfl rfl rfl rfl rfl hr (by rfl) (pa_cons (pe_dfK (d_law_box C) rfl rfl rfl rfl rfl hr (by rfl) (pa_cons (pe_dfK (d_law_cells C) rfl rfl rfl rfl rfl hr (by rfl) (pa_cons (pv 0) (pa_cons pe_int pa_nil))) (pa_cons pe_int pa_nil))) pa_nil)))))), ?_⟩
  · rintro vs H Q E ⟨a, ns, rfl, _⟩; rfl
  · obtain ⟨a, ns, rfl, h63, tb, sq, q⟩ := hsp
    have su : ∀ H : Hp, Sub (fun _ => none) H := fun H => ⟨fun a o e => (nomatch e), fun a o e => (nomatch e)⟩
    have x0 : En K H (fun _ => none) H (L2.start ["_law_script"] [.ref a]) [.scr a ns] := by
      refine ⟨rfl, fun i sl e => ?_, fun i j di dj r hij ei ej => ?_⟩
      · match i, e with
        | 0, e => cases e; exact ⟨_, rfl, rfl, sq, sq⟩
      · match i, ei with
        | 0, ei => cases ei
    have h1 : EvD T K (tCall (spF T K fHand) [] E0 tNil) [.scr a ns] (.bool true) := evd_call evds_nil c_hand
    refine h1 H (fun _ => none) H _ (su H) tb x0 _ fun v G1 H1 g1 q1 => ?_
    cases q1
    refine ⟨true, rfl, ?_⟩
    suffices go : spCells T K [.ref a, .int 1] H1 (fun v2 H2 => spF T K fBox [v2, .int 0] H2 (fun v3 H3 => spU T K 200 preRight postRight [v3] H3 Q E0) E0) E0 from ⟨.ref a, rfl, go⟩
    refine ⟨a, ns, rfl, h63, g1.tabs tb, sql_le sq fun o e n => g1.keep e n, fun v2 z G2 H2 g2 q2 => ?_⟩
    refine ⟨G2, [.list [.int z], .int 0], boxD z, g2.sub, g2.tabs (g1.tabs tb), .cons q2 (.cons (.int 0) .nil), ⟨z, rfl, rfl⟩, fun v3 G3 H3 g3 q3 => ?_⟩
    obtain ⟨xs, ex, un⟩ := box_un z (0 + 200) (by decide)
    rw [ex] at q3
    cases q3 with | @lst p us _ e qa =>
    have qn : DqAll K (fun _ => none) us xs := by
      obtain ⟨a1, b1, c1, rfl, _⟩ := un
      cases qa with | cons r1 qa =>
      cases qa with | cons r2 qa =>
      cases qa with | cons r3 qa =>
      cases qa; cases r1; cases r2; cases r3
      exact .cons (.int _) (.cons (.int _) (.cons (.int _) .nil))
    refine ⟨fun _ => none, p, [], [], xs, us, 0, rfl, su H3, g3.tabs (g2.tabs (g1.tabs tb)), g3.sub.le _ _ e, rfl, qn, .nil, un, rfl, fun v d ys us' G' H' g h' qy u pd qd => ?_⟩
    have ed : d = .bool true := pd
    subst ed
    cases qd
    exact q H'
end
end K37
namespace K37
open PyProof.Rows PySem PySem.Spec L2
/-! ### what the top has left: the whole context -/
theorem dats_ok {K : PySem.W.Frag} {f : Value → PyData → Bool} (hf : ∀ v d, f v d = true → ∃ u : V, RelV u v ∧ ∀ G, Dq K G u d) : ∀ (vs : List Value) (ds : List PyData), datB.datsB f vs ds = true → ∃ us : List V, Vals us vs ∧ ∀ G, DqAll K G us ds
  | [], [], _ => ⟨[], .nil, fun _ => .nil⟩
  | [], _ :: _, h => by cases h
  | _ :: _, [], h => by cases h
  | v :: vs, d :: ds, h => by
    obtain ⟨h1, h2⟩ := (Bool.and_eq_true _ _).mp (show (f v d && datB.datsB f vs ds) = true from h)
    obtain ⟨u, r, q⟩ := hf v d h1
    obtain ⟨us, rs, qs⟩ := dats_ok hf vs ds h2
    exact ⟨u :: us, .cons r rs, fun G => .cons (q G) (qs G)⟩
theorem datB_ok {K : PySem.W.Frag} : ∀ (n : Nat) (v : Value) (d : PyData), datB K n v d = true → ∃ u : V, RelV u v ∧ ∀ G, Dq K G u d
  | 0, _, _, h => by cases h
  | n + 1, v, d, h => by
    unfold datB at h
    cases d with
    | int i =>
      cases v with
      | int j t =>
        have e : i = j := (of_decide_eq_true h)
        subst e
        exact ⟨.int i, ⟨t, rfl⟩, fun G => .int i⟩
      | _ => cases h
    | tuple ds =>
      cases v with
      | ref a =>
        simp only at h
        cases q : K.lookup a with
        | none => rw [q] at h; cases h
        | some o =>
          obtain ⟨oc, od, dt, osl⟩ := o
          rw [q] at h
          cases oc with
          | type c =>
            cases dt with
            | seq its m =>
              obtain ⟨h1, h2⟩ := (Bool.and_eq_true _ _).mp h
              obtain ⟨h3, h4⟩ := (Bool.and_eq_true _ _).mp h2
              obtain ⟨us, rs, qs⟩ := dats_ok (fun v d => datB_ok n v d) _ _ h4
              exact ⟨.ref a, rfl, fun G => .tup (.inr ⟨_, its, m, q, congrArg Value.type (of_decide_eq_true h1), rfl, of_decide_eq_true h3, rs⟩) (qs G)⟩
            | _ => cases h
          | _ => cases dt <;> cases h
      | _ => cases h
    | _ => cases h
theorem conB_ok {K : PySem.W.Frag} {h : Heap} {mg : Str → Option Value} (X : K.In h) (G : h.Ns mainGlobals mg) {x : Str} {d : PyData} (c : conB K x d = true) : Cst K mg x d := by
  unfold conB at c
  cases e : (PySem.W.nsIn K mainGlobals x) with
  | none => rw [e] at c; cases c
  | some o =>
    cases o with
    | none => rw [e] at c; cases c
    | some v =>
      rw [e] at c
      obtain ⟨u, r, q⟩ := datB_ok 8 v d c
      exact ⟨u, v, PySem.W.mg_of X G e, r, q⟩
theorem fn_nm : fn = nmI.map fun p => dd p.1 p.2 := rfl
theorem fa_nm : fa = (nmI.map fun p => He.Fa.glo p.1) ++ bl.map He.Fa.free := rfl
abbrev lyn : He.Defn := ("lyndon_words", none)
theorem ct_of {P : Program} {w : World} {K : PySem.W.Frag} {h : Heap} {mg : Str → Option Value} {base : Heap} (X : K.In h) (G : h.Ns mainGlobals mg) (c : He.SaysX fa fn [] tf ex w h K) (TB : LamX.TabB base mg (He.cT K lyn).1 (He.cT K lyn).2) :
    CT P w K mg base [((He.cT K lyn).2, "lyndon_words.<locals>.<lambda>")] where
  fnat := fun i d e => by
    have hm := List.mem_of_getElem? e
    obtain ⟨fd, F⟩ := c.t.d.defs hm
    rw [fn_nm] at hm
    obtain ⟨p, hp, rfl⟩ := List.mem_map.mp hm
    exact ⟨_, fd, F, He.glo_ok X G (c.t.d.facts (f := .glo p.1) (by rw [fa_nm]; exact List.mem_append_left _ (List.mem_map_of_mem hp)))⟩
  free := fun i x e => He.free_ok X G (c.t.d.facts (f := .free x) (by rw [fa_nm]; exact List.mem_append_right _ (List.mem_map_of_mem (List.mem_of_getElem? e))))
  gcd := by
    have h1 := ((Bool.and_eq_true _ _).mp (show (gcdB K && cons.all fun q => conB K q.1 q.2) = true from c.more)).1
    exact PySem.W.mg_of X G (He.eqO_ok h1)
  cst := fun i q e => by
    have h1 := ((Bool.and_eq_true _ _).mp (show (gcdB K && cons.all fun q => conB K q.1 q.2) = true from c.more)).2
    exact conB_ok X G (List.all_eq_true.mp h1 q (List.mem_of_getElem? e))
  lam := by
    have hm : dd "lyndon_words" 35 ∈ fn := by
      rw [fn_nm]
      exact List.mem_map.mpr ⟨("lyndon_words", 35), List.mem_of_getElem? (i := 25) rfl, rfl⟩
    obtain ⟨fd, F⟩ := c.t.d.defs hm
    obtain ⟨oc, od, dV, kV, doc, pm, an, cdv, ct, osl, rfl, lk, hcd, _, _⟩ := (F.ex)
    obtain ⟨c0, rfl⟩ := He.codeIn_ref hcd
    have ec : He.codeOf K lyn = c0 := He.codeOf_eq lk rfl
    refine ⟨_, c0, (He.cT K lyn).2, oc, od, osl, dV, kV, doc, pm, ct, an, lk, hcd, He.glo_ok X G (c.t.d.facts (f := .glo "lyndon_words") (by rw [fa_nm]; exact List.mem_append_left _ (List.mem_map.mpr ⟨("lyndon_words", 35), List.mem_of_getElem? (i := 25) rfl, rfl⟩))), ?_, rfl⟩
    have : (He.cT K lyn).1 = c0 := ec
    rw [this] at TB
    exact TB
theorem law_at {w : World} {K : PySem.W.Frag} {h : Heap} {mg : Str → Option Value} {f : Addr} (X : K.In h) (G : h.Ns mainGlobals mg) (c : He.SaysX fa fn [] tf ex w h K) (hf : mg ("law" : Str) = some (.ref f)) :
    LamX.LawAtS PySem.Challenge.rw_everychange_k37_whole_same_rows_by_all_r w K CX0 17 63 "_law_script" mg f h := by
  have hm : dd "law" 94 ∈ fn := by
    rw [fn_nm]
    exact List.mem_map.mpr ⟨("law", 94), List.mem_of_getElem? (i := 76) rfl, rfl⟩
  obtain ⟨fd, F⟩ := c.t.d.defs hm
  have eg := hf.symm.trans (He.glo_ok X G (c.t.d.facts (f := .glo "law") (by rw [fa_nm]; exact List.mem_append_left _ (List.mem_map.mpr ⟨("law", 94), List.mem_of_getElem? (i := 76) rfl, rfl⟩))))
  cases eg
  have b := FunD.bindsA (ps := ["_law_script"]) F fun _ _ _ _ _ _ us hl => match us, hl with | [_], _ => rfl
  have one : ∀ p ∈ [He.cT K lyn], p = He.cT K lyn := fun p hp => List.mem_singleton.mp hp
  have hin : lyn ∈ tf := .head _
  refine ⟨fd, [He.cT K lyn], spLaw [((He.cT K lyn).2, "lyndon_words.<locals>.<lambda>")] K, fun p hp => ?_, fun p hp => ?_, fun p hp => ?_, fun s v => b s [v] rfl, fun H a ns hl _ hT hS => ⟨a, ns, rfl, hl, fun p hp => ?_, hS, fun _ => rfl⟩, fun base _ _ hB => ?_⟩
  · rw [one p hp]; exact c.empty lyn hin
  · rw [one p hp]; exact c.out lyn hin
  · rw [one p hp]; exact PySem.W.codeHd_of_K X (c.hd lyn hin)
  · rw [(List.mem_singleton.mp hp)]
    exact LamX.TabS.nil (hT (He.cT K lyn) (.head _))
  · exact ok_law (ct_of X G c (hB (He.cT K lyn) (.head _))) F
end K37
open PySem.W PySem PySem.Calls PyProof.Rows
theorem PySem.Challenge.cw_everychange_k37_whole_same_rows_by_all_r_holds : PySem.Challenge.rw_everychange_k37_whole_same_rows_by_all_r.Holds := by
  w_on; o_law
  refine HandSHeadRun.head_imp (r := K37.R) (q := view K37.R.prog [0, 94]) (H := K37.hk) (ob := K37.ob) (M := 4000) (loose := K37.loose) (d := HandSHeadRun.topDef K37.R.prog 94) (kwd := []) K37.ob_eq
    K37.run (by kernel_rfl) (by kernel_rfl) (by kernel_rfl) (by rfl) (by first | assumption | decide +kernel) (by decide +kernel) ⟨rfl, rfl, rfl, rfl, rfl, by decide +kernel⟩ ?promise ?walk
  case promise => w_witness2
  case walk =>
    refine LamX.walk_ofTsE (l := PySem.Challenge.rw_everychange_k37_whole_same_rows_by_all_r) (n := 63) (k := 17) (x := "_law_script") (CX := fun _ => L2.CX0) rfl (by decide) (by kernel_rfl) ⟨rfl, by decide, by decide⟩ ?facts (fun _ _ _ _ _ z => z)
    intro w mg f h Y G hmg0
    obtain ⟨K, KX, c⟩ := Y
    have hmg : mg ("law" : PySem.Str) = some (.ref f) := by
      have e : (HandSHeadRun.topDef K37.R.prog 94).name = ("law" : PySem.Str) := by kernel_rfl
      rw [← e]
      exact hmg0
    exact ⟨K, KX, K37.law_at KX G c hmg⟩
