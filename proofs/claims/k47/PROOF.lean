import PyProof.Rows.All
import Wide.All
import OpenK.AllK
import Wide.FinOn
import HandS.ForMost
import HandS.IsInst
import HandS.Style
import HandS.TupAny
import HandS.TupMul
import HandS.Wide
import HandS.Conv
import HandS.Zip
import HandS.Walk
import HandS.Deep
import HandS.Evl
import PyProof.ListMulRoad
import PyProof.FactsAll.tuple_2
import HandS.RaiseMore
import KE.GoesEnum
import KE.KDictPairs
import KE.KDictKeyed
import KE.KDictCopyH
import KE.KDictDisplayH
import KE.KDictList
import HandS.Iter
import HandS.TupSets
import PyProof.WalksMore
import PySem.Challenge.RW_layersheld_k47_whole_least_pieces
set_option Elab.async false
set_option linter.all false
set_option maxRecDepth 100000
set_option maxHeartbeats 4000000
namespace Ly
open PySem L2 Evl

/-! ### frozen data at an address -/
mutual
inductive Da (G : Hp) : V → PyData → Prop
  | non : Da G .non .none
  | bl (b : Bool) : Da G (.bl b) (.bool b)
  | int (i : Int) : Da G (.int i) (.int i)
  | str (x : Str) : Da G (.str x) (.str x)
  | lst {a : Addr} {xs : List V} {ds : List PyData} : G a = some (.lst xs) → DaS G xs ds → Da G (.ref a) (.list ds)
  | tup {a : Addr} {xs : List V} {ds : List PyData} : G a = some (.tup xs) → DaS G xs ds → Da G (.ref a) (.tuple ds)
inductive DaS (G : Hp) : List V → List PyData → Prop
  | nil : DaS G [] []
  | cons {v : V} {vs : List V} {d : PyData} {ds : List PyData} : Da G v d → DaS G vs ds → DaS G (v :: vs) (d :: ds)
end
mutual
theorem Da.mono {G G' : Hp} (e : Ex G G') : ∀ {v : V} {d : PyData}, Da G v d → Da G' v d
  | _, _, .non => .non
  | _, _, .bl b => .bl b
  | _, _, .int i => .int i
  | _, _, .str x => .str x
  | _, _, .lst h s => .lst (e _ _ h) (DaS.mono e s)
  | _, _, .tup h s => .tup (e _ _ h) (DaS.mono e s)
theorem DaS.mono {G G' : Hp} (e : Ex G G') : ∀ {vs : List V} {ds : List PyData}, DaS G vs ds → DaS G' vs ds
  | _, _, .nil => .nil
  | _, _, .cons h s => .cons (Da.mono e h) (DaS.mono e s)
end
mutual
theorem Da.dp {K : PySem.W.Frag} {H : Hp} : ∀ {v : V} {d : PyData}, Da H v d → Dp K H v d
  | _, _, .non => .non
  | _, _, .bl b => .bl b
  | _, _, .int i => .int i
  | _, _, .str x => .str x
  | _, _, .lst h s => .lst (SqL.of h) (DaS.dp s)
  | _, _, .tup h s => .tup (SqT.of h) (DaS.dp s)
theorem DaS.dp {K : PySem.W.Frag} {H : Hp} : ∀ {vs : List V} {ds : List PyData}, DaS H vs ds → DpAll K H vs ds
  | _, _, .nil => .nil
  | _, _, .cons h s => .cons (Da.dp h) (DaS.dp s)
end
section
variable {G G' H H' : Hp} {v : V} {d : PyData} {vs : List V} {ds : List PyData}
theorem Da.isInt {i : Int} (h : Da G v (.int i)) : v = .int i := by cases h; rfl
theorem Da.isBl {b : Bool} (h : Da G v (.bool b)) : v = .bl b := by cases h; rfl
theorem Da.isStr {x : Str} (h : Da G v (.str x)) : v = .str x := by cases h; rfl
theorem Da.isNon (h : Da G v .none) : v = .non := by cases h; rfl
theorem Da.isTup (h : Da G v (.tuple ds)) : ∃ a xs, v = .ref a ∧ G a = some (.tup xs) ∧ DaS G xs ds := by
  cases h with
  | tup h s => exact ⟨_, _, rfl, h, s⟩
theorem Da.isLst (h : Da G v (.list ds)) : ∃ a xs, v = .ref a ∧ G a = some (.lst xs) ∧ DaS G xs ds := by
  cases h with
  | lst h s => exact ⟨_, _, rfl, h, s⟩
theorem DaS.len : ∀ {vs : List V} {ds : List PyData}, DaS G vs ds → vs.length = ds.length
  | _, _, .nil => rfl
  | _, _, .cons _ s => by rw [List.length_cons, List.length_cons, s.len]
theorem DaS.append : ∀ {vs ws : List V} {ds es : List PyData}, DaS G vs ds → DaS G ws es → DaS G (vs ++ ws) (ds ++ es)
  | _, _, _, _, .nil, s => s
  | _, _, _, _, .cons h t, s => .cons h (t.append s)
theorem DaS.get : ∀ {vs : List V} {ds : List PyData} {i : Nat} {d : PyData}, DaS G vs ds → ds[i]? = some d → ∃ v, vs[i]? = some v ∧ Da G v d
  | _, _, _, _, .nil, h => by simp at h
  | _, _, 0, _, .cons h _, e => by simp at e; subst e; exact ⟨_, rfl, h⟩
  | _, _, i + 1, _, .cons _ s, e => by
    obtain ⟨v, h1, h2⟩ := s.get (i := i) (by simpa using e)
    exact ⟨v, by simpa using h1, h2⟩
theorem DaS.getV : ∀ {vs : List V} {ds : List PyData} {i : Nat} {v : V}, DaS G vs ds → vs[i]? = some v → ∃ d, ds[i]? = some d ∧ Da G v d
  | _, _, _, _, .nil, h => by simp at h
  | _, _, 0, _, .cons h _, e => by simp at e; subst e; exact ⟨_, rfl, h⟩
  | _, _, i + 1, _, .cons _ s, e => by
    obtain ⟨v, h1, h2⟩ := s.getV (i := i) (by simpa using e)
    exact ⟨v, by simpa using h1, h2⟩
theorem DaS.take : ∀ {vs : List V} {ds : List PyData} (n : Nat), DaS G vs ds → DaS G (vs.take n) (ds.take n)
  | _, _, 0, _ => .nil
  | _, _, _ + 1, .nil => .nil
  | _, _, n + 1, .cons h s => .cons h (s.take n)
theorem DaS.drop : ∀ {vs : List V} {ds : List PyData} (n : Nat), DaS G vs ds → DaS G (vs.drop n) (ds.drop n)
  | _, _, 0, s => s
  | _, _, _ + 1, .nil => .nil
  | _, _, n + 1, .cons _ s => s.drop n
theorem DaS.rep (h : DaS G vs ds) : ∀ n : Nat, DaS G (List.replicate n vs).flatten (List.replicate n ds).flatten
  | 0 => .nil
  | n + 1 => by
    rw [List.replicate_succ, List.replicate_succ, List.flatten_cons, List.flatten_cons]
    exact h.append (h.rep n)
theorem DaS.ints : ∀ {vs : List V} {ns : List Int}, DaS G vs (ns.map .int) → vs = ns.map V.int
  | [], [], _ => rfl
  | _ :: _, _ :: _, .cons h s => by rw [List.map_cons, h.isInt, s.ints]
theorem DaS.ofInts : ∀ (ns : List Int), DaS G (ns.map V.int) (ns.map .int)
  | [] => .nil
  | n :: r => .cons (.int n) (DaS.ofInts r)
theorem DaS.bls : ∀ {vs : List V} {ns : List Bool}, DaS G vs (ns.map .bool) → vs = ns.map V.bl
  | [], [], _ => rfl
  | _ :: _, _ :: _, .cons h s => by rw [List.map_cons, h.isBl, s.bls]
theorem DaS.atI {i : Int} (s : DaS G vs ds) (h : L2.atI ds i = some d) : ∃ v, L2.atI vs i = some v ∧ Da G v d := by
  unfold L2.atI at h ⊢
  rw [s.len]
  cases e : ixN ds.length i with
  | none => rw [e] at h; cases h
  | some j =>
    rw [e] at h
    exact s.get h
theorem DaS.nil_iff (s : DaS G vs ds) : vs = [] ↔ ds = [] := by
  cases s with
  | nil => simp
  | cons => simp
end

/-! ### what a slot holds: nothing known, a datum, one address -/
inductive E where
  | un
  | d (x : PyData)
  | r (a : Addr)
  | f (a : Addr) (o : HO)
def Er (G : Hp) (ov : Option V) : E → Prop
  | .un => True
  | .d x => ∃ v, ov = some v ∧ Da G v x
  | .r a => ov = some (.ref a)
  | .f a o => ov = some (.ref a) ∧ G a = some o
theorem Er.mono {G G' : Hp} (e : Ex G G') {ov : Option V} : ∀ {x : E}, Er G ov x → Er G' ov x
  | .un, _ => trivial
  | .d _, ⟨v, h, k⟩ => ⟨v, h, k.mono e⟩
  | .r _, h => h
  | .f _ _, h => ⟨h.1, e _ _ h.2⟩
theorem Er.dat {G : Hp} {v : V} {x : PyData} (h : Er G (some v) (.d x)) : Da G v x := by
  obtain ⟨w, e, k⟩ := h
  cases e
  exact k
theorem Er.of {G : Hp} {v : V} {x : PyData} (h : Da G v x) : Er G (some v) (.d x) := ⟨v, rfl, h⟩
inductive Sl (G : Hp) : L2.St → List E → Prop
  | nil : Sl G [] []
  | cons {ov : Option V} {σ : L2.St} {x : E} {ρ : List E} : Er G ov x → Sl G σ ρ → Sl G (ov :: σ) (x :: ρ)
/-- values of arguments -/
inductive ErS (G : Hp) : List V → List E → Prop
  | nil : ErS G [] []
  | cons {v : V} {vs : List V} {x : E} {es : List E} : Er G (some v) x → ErS G vs es → ErS G (v :: vs) (x :: es)
section
variable {G G' : Hp}
theorem Sl.mono (e : Ex G G') : ∀ {σ : L2.St} {ρ : List E}, Sl G σ ρ → Sl G' σ ρ
  | _, _, .nil => .nil
  | _, _, .cons h s => .cons (h.mono e) (s.mono e)
theorem ErS.mono (e : Ex G G') : ∀ {vs : List V} {es : List E}, ErS G vs es → ErS G' vs es
  | _, _, .nil => .nil
  | _, _, .cons h s => .cons (h.mono e) (s.mono e)
theorem Sl.len : ∀ {σ : L2.St} {ρ : List E}, Sl G σ ρ → σ.length = ρ.length
  | _, _, .nil => rfl
  | _, _, .cons _ s => by rw [List.length_cons, List.length_cons, s.len]
theorem ErS.len : ∀ {vs : List V} {es : List E}, ErS G vs es → vs.length = es.length
  | _, _, .nil => rfl
  | _, _, .cons _ s => by rw [List.length_cons, List.length_cons, s.len]
theorem Sl.get : ∀ {σ : L2.St} {ρ : List E} {i : Nat} {x : E}, Sl G σ ρ → ρ[i]? = some x → ∃ ov, σ[i]? = some ov ∧ Er G ov x
  | _, _, _, _, .nil, h => by simp at h
  | _, _, 0, _, .cons h _, e => by simp at e; subst e; exact ⟨_, rfl, h⟩
  | _, _, i + 1, _, .cons _ s, e => by
    obtain ⟨v, h1, h2⟩ := s.get (i := i) (by simpa using e)
    exact ⟨v, by simpa using h1, h2⟩
theorem Sl.set {ov : Option V} {x : E} (h : Er G ov x) : ∀ {σ : L2.St} {ρ : List E} (i : Nat), Sl G σ ρ → Sl G (σ.set i ov) (ρ.set i x)
  | _, _, _, .nil => .nil
  | _, _, 0, .cons _ s => .cons h s
  | _, _, i + 1, .cons k s => .cons k (Sl.set h i s)
theorem Sl.app : ∀ {σ τ : L2.St} {ρ π : List E}, Sl G σ ρ → Sl G τ π → Sl G (σ ++ τ) (ρ ++ π)
  | _, _, _, _, .nil, s => s
  | _, _, _, _, .cons h t, s => .cons h (t.app s)
theorem Sl.ofVals : ∀ {vs : List V} {es : List E}, ErS G vs es → Sl G (vs.map some) es
  | _, _, .nil => .nil
  | _, _, .cons h s => .cons h (Sl.ofVals s)
theorem Sl.none : ∀ (n : Nat), Sl G (List.replicate n Option.none) (List.replicate n E.un)
  | 0 => .nil
  | n + 1 => .cons trivial (Sl.none n)
theorem ErS.dats : ∀ {vs : List V} {ds : List PyData}, ErS G vs (ds.map E.d) → DaS G vs ds
  | _, [], .nil => .nil
  | _, _ :: _, .cons h s => .cons h.dat (ErS.dats s)
theorem ErS.of : ∀ {vs : List V} {ds : List PyData}, DaS G vs ds → ErS G vs (ds.map E.d)
  | _, _, .nil => .nil
  | _, _, .cons h s => .cons (.of h) (ErS.of s)
theorem ErS.append : ∀ {vs ws : List V} {es fs : List E}, ErS G vs es → ErS G ws fs → ErS G (vs ++ ws) (es ++ fs)
  | _, _, _, _, .nil, s => s
  | _, _, _, _, .cons h t, s => .cons h (t.append s)
end

/-! ### owned cells: what may change -/
inductive OO where
  | lst (es : List E)
  | dK (kvs : List (Key × E))
  | dT (kvs : List (List Key × E))
  | raw (o : HO)
abbrev Own := List (Addr × OO)
def Or (G : Hp) : HO → OO → Prop
  | .lst xs, .lst es => ErS G xs es
  | .dK kvs, .dK les => kvs.map (·.1) = les.map (·.1) ∧ ErS G (kvs.map (·.2)) (les.map (·.2))
  | .dT kvs, .dT les => kvs.map (·.1) = les.map (·.1) ∧ ErS G (kvs.map (·.2)) (les.map (·.2))
  | o, .raw o' => o = o' ∧ ∀ xs, o' ≠ .tup xs
  | _, _ => False
theorem Or.mono {G G' : Hp} (e : Ex G G') {o : HO} {x : OO} (h : Or G o x) : Or G' o x := by
  cases o <;> cases x <;> first | exact ErS.mono e h | exact ⟨h.1, ErS.mono e h.2⟩ | exact h
theorem Or.lstE {G : Hp} {o : HO} {es : List E} (h : Or G o (.lst es)) : ∃ xs, o = .lst xs ∧ ErS G xs es := by
  cases o with
  | lst xs => exact ⟨xs, rfl, h⟩
  | _ => exact h.elim
structure Wd (O : Own) (G H : Hp) : Prop where
  sub : Ex G H
  own : ∀ p ∈ O, ∃ o, H p.1 = some o ∧ Or G o p.2 ∧ G p.1 = none
  nd : (O.map (·.1)).Nodup
section
variable {O O' F : Own} {G H : Hp} {p a : Addr} {o : HO} {oo : OO}
theorem Wd.free (w : Wd O G H) (h : H p = none) : G p = none := fresh_back w.sub h
theorem Wd.da (w : Wd O G H) {v : V} {d : PyData} (h : Da G v d) : Da H v d := h.mono w.sub
theorem Wd.das (w : Wd O G H) {v : List V} {d : List PyData} (h : DaS G v d) : DaS H v d := h.mono w.sub
theorem Wd.new (w : Wd O G H) (h : H p = none) (o : HO) : Ex G (upd G p o) ∧ Wd O (upd G p o) (upd H p o) := by
  have e : Ex G (upd G p o) := Ex.new (w.free h)
  refine ⟨e, fun b u q => ?_, fun q hq => ?_, w.nd⟩
  · by_cases hb : b = p
    · subst hb; rw [upd_same] at q ⊢; exact q
    · rw [upd_ne hb] at q ⊢; exact w.sub b u q
  · obtain ⟨u, h1, h2, h3⟩ := w.own q hq
    have hb : q.1 ≠ p := ne_of_none h1 h
    exact ⟨u, by rw [upd_ne hb]; exact h1, h2.mono e, by rw [upd_ne hb]; exact h3⟩
theorem Wd.newOwn (w : Wd O G H) (h : H p = none) (k : Or G o oo) : Wd ((p, oo) :: O) G (upd H p o) := by
  refine ⟨fun b u q => ?_, fun q hq => ?_, ?_⟩
  · have hb : b ≠ p := ne_of_none q (w.free h)
    rw [upd_ne hb]
    exact w.sub b u q
  · rcases List.mem_cons.mp hq with rfl | hq
    · exact ⟨o, upd_same, k, w.free h⟩
    · obtain ⟨u, h1, h2, h3⟩ := w.own q hq
      have hb : q.1 ≠ p := ne_of_none h1 h
      exact ⟨u, by rw [upd_ne hb]; exact h1, h2, h3⟩
  · rw [List.map_cons, List.nodup_cons]
    refine ⟨fun hm => ?_, w.nd⟩
    obtain ⟨q, hq, e⟩ := List.mem_map.mp hm
    obtain ⟨u, h1, _⟩ := w.own q hq
    rw [e, h] at h1
    cases h1
theorem Wd.at (w : Wd O G H) {i : Nat} (hi : O[i]? = some (a, oo)) : ∃ o, H a = some o ∧ Or G o oo ∧ G a = none := w.own _ (List.mem_of_getElem? hi)
theorem Wd.set (w : Wd O G H) {i : Nat} (hi : O[i]? = some (a, oo)) {o' : HO} {oo' : OO} (k : Or G o' oo') : Wd (O.set i (a, oo')) G (upd H a o') := by
  obtain ⟨u, hu, _, hG⟩ := w.at hi
  have em : (O.set i (a, oo')).map (·.1) = O.map (·.1) := by
    rw [List.map_set]
    apply List.ext_getElem?
    intro j
    rw [List.getElem?_set]
    split
    · rename_i e
      subst e
      rw [List.length_map]
      have hl := (List.getElem?_eq_some_iff.mp hi).1
      rw [if_pos hl, List.getElem?_map, hi]
      rfl
    · rfl
  refine ⟨fun b x q => ?_, fun q hq => ?_, by rw [em]; exact w.nd⟩
  · rw [upd_ne (ne_of_none q hG)]
    exact w.sub b x q
  · obtain ⟨j, hj⟩ := List.mem_iff_getElem?.mp hq
    rw [List.getElem?_set] at hj
    by_cases e : i = j
    · subst e
      have hl := (List.getElem?_eq_some_iff.mp hi).1
      rw [if_pos rfl, if_pos hl] at hj
      cases hj
      exact ⟨o', upd_same, k, hG⟩
    · rw [if_neg e] at hj
      obtain ⟨x, h1, h2, h3⟩ := w.own q (List.mem_of_getElem? hj)
      have hne : q.1 ≠ a := fun z => by
        have a1 : (O.map (·.1))[i]? = some a := by rw [List.getElem?_map, hi]; rfl
        have a2 : (O.map (·.1))[j]? = some a := by rw [List.getElem?_map, hj]; exact congrArg some z
        exact e (nd_ix w.nd a1 a2)
      exact ⟨x, by rw [upd_ne hne]; exact h1, h2, h3⟩
theorem Wd.perm (w : Wd O G H) (h : O.Perm O') : Wd O' G H := ⟨w.sub, fun p hp => w.own p (h.mem_iff.mpr hp), (h.map _).nodup_iff.mp w.nd⟩
theorem Wd.drop (w : Wd (O ++ F) G H) : Wd F G H := ⟨w.sub, fun p hp => w.own p (List.mem_append.mpr (.inr hp)), by
  have := w.nd
  rw [List.map_append] at this
  exact (List.nodup_append.mp this).2.1⟩
/-- a list that is owned is given up: it is frozen -/
theorem Wd.freeze {ds : List PyData} (w : Wd ((a, .lst (ds.map E.d)) :: O) G H) : ∃ xs, Ex G (upd G a (.lst xs)) ∧ Wd O (upd G a (.lst xs)) H ∧ Da (upd G a (.lst xs)) (.ref a) (.list ds) := by
  obtain ⟨o, h1, h2, h3⟩ := w.own _ List.mem_cons_self
  obtain ⟨xs, rfl, h4⟩ := h2.lstE
  have e : Ex G (upd G a (.lst xs)) := Ex.new h3
  have nd := w.nd
  rw [List.map_cons, List.nodup_cons] at nd
  refine ⟨xs, e, ⟨fun b u q => ?_, fun q hq => ?_, nd.2⟩, .lst upd_same ((ErS.dats h4).mono e)⟩
  · by_cases hb : b = a
    · subst hb; rw [upd_same] at q; cases q; exact h1
    · rw [upd_ne hb] at q; exact w.sub b u q
  · obtain ⟨u, g1, g2, g3⟩ := w.own q (List.mem_cons_of_mem _ hq)
    have hb : q.1 ≠ a := fun z => nd.1 (List.mem_map.mpr ⟨q, hq, z⟩)
    exact ⟨u, g1, g2.mono e, by rw [upd_ne hb]; exact g3⟩
end

/-! ### judgements -/
def Ev (te : TE) (ρ : List E) (O : Own) (Z : E → Own → Prop) : Prop := ∀ (F : Own) (G H : Hp) (σ : L2.St), Wd (O ++ F) G H → Sl G σ ρ → ∀ Q : VK,
  (∀ v G' H' r O', Z r O' → Ex G G' → Wd (O' ++ F) G' H' → Er G' (some v) r → Q v H') → te σ H Q
def EvD (te : TE) (ρ : List E) (O : Own) (d : PyData) : Prop := ∀ (F : Own) (G H : Hp) (σ : L2.St), Wd (O ++ F) G H → Sl G σ ρ → ∀ Q : VK,
  (∀ v G' H', Ex G G' → Wd (O ++ F) G' H' → Da G' v d → Q v H') → te σ H Q
def EvR (te : TE) (ρ : List E) (a : Addr) : Prop := ∀ (G H : Hp) (σ : L2.St), Sl G σ ρ → ∀ Q : VK, Q (.ref a) H → te σ H Q
def EvT (tt : TT) (ρ : List E) (O : Own) (b : Bool) : Prop := ∀ (F : Own) (G H : Hp) (σ : L2.St), Wd (O ++ F) G H → Sl G σ ρ → ∀ Q : Bool → Hp → Prop,
  (∀ G' H', Ex G G' → Wd (O ++ F) G' H' → Q b H') → tt σ H Q
def EvA (ta : TA) (ρ : List E) (O : Own) (ds : List PyData) : Prop := ∀ (F : Own) (G H : Hp) (σ : L2.St), Wd (O ++ F) G H → Sl G σ ρ → ∀ Q : List V → Hp → Prop,
  (∀ vs G' H', Ex G G' → Wd (O ++ F) G' H' → DaS G' vs ds → Q vs H') → ta σ H Q
def EvX (ta : TA) (ρ : List E) (O : Own) (Z : List E → Own → Prop) : Prop := ∀ (F : Own) (G H : Hp) (σ : L2.St), Wd (O ++ F) G H → Sl G σ ρ → ∀ Q : List V → Hp → Prop,
  (∀ vs G' H' es O', Z es O' → Ex G G' → Wd (O' ++ F) G' H' → ErS G' vs es → Q vs H') → ta σ H Q
def EvTX (tt : TT) (ρ : List E) (O : Own) (Z : Bool → Own → Prop) : Prop := ∀ (F : Own) (G H : Hp) (σ : L2.St), Wd (O ++ F) G H → Sl G σ ρ → ∀ Q : Bool → Hp → Prop,
  (∀ G' H' b O', Z b O' → Ex G G' → Wd (O' ++ F) G' H' → Q b H') → tt σ H Q
def EvO (to : TO) (ρ : List E) (O : Own) (o : Option Int) : Prop := ∀ (F : Own) (G H : Hp) (σ : L2.St), Wd (O ++ F) G H → Sl G σ ρ → ∀ Q : Option Int → Hp → Prop,
  (∀ G' H', Ex G G' → Wd (O ++ F) G' H' → Q o H') → to σ H Q
def RD (r : R2) (x y z : PyData) : Prop := ∀ (F : Own) (G H : Hp) (vx vy : V), Wd F G H → Da G vx x → Da G vy y → ∀ Q : VK,
  (∀ v G' H', Ex G G' → Wd F G' H' → Da G' v z → Q v H') → r vx vy H Q
def RU (r : V → Hp → VK → Prop) (x z : PyData) : Prop := ∀ (F : Own) (G H : Hp) (vx : V), Wd F G H → Da G vx x → ∀ Q : VK,
  (∀ v G' H', Ex G G' → Wd F G' H' → Da G' v z → Q v H') → r vx H Q
def RC (r : List V → Hp → VK → Prop) (xs : List PyData) (z : PyData) : Prop := ∀ (F : Own) (G H : Hp) (vs : List V), Wd F G H → DaS G vs xs → ∀ Q : VK,
  (∀ v G' H', Ex G G' → Wd F G' H' → Da G' v z → Q v H') → r vs H Q
def RS (r : V → Option Int → Option Int → Hp → VK → Prop) (x : PyData) (lo hi : Option Int) (z : PyData) : Prop := ∀ (F : Own) (G H : Hp) (vx : V), Wd F G H → Da G vx x → ∀ Q : VK,
  (∀ v G' H', Ex G G' → Wd F G' H' → Da G' v z → Q v H') → r vx lo hi H Q

section
variable {ρ : List E} {O O' : Own} {te ta tb tc : TE} {tt tu : TT} {x y z d : PyData} {ds : List PyData} {Z Y : E → Own → Prop} {r r' : R2}
theorem Ev.weak (h : Ev te ρ O Z) (k : ∀ r O', Z r O' → Y r O') : Ev te ρ O Y := fun F G H σ w s Q q => h F G H σ w s Q fun v G' H' r O' z => q v G' H' r O' (k r O' z)
theorem EvD.to (h : EvD te ρ O d) (k : Z (.d d) O) : Ev te ρ O Z := fun F G H σ w s Q q =>
  h F G H σ w s Q fun v G' H' e w' a => q v G' H' (.d d) O k e w' (.of a)
theorem Ev.det (h : Ev te ρ O (fun r O' => r = .d d ∧ O' = O)) : EvD te ρ O d := fun F G H σ w s Q q =>
  h F G H σ w s Q fun v G' H' r O' z e w' a => by
    obtain ⟨rfl, rfl⟩ := z
    exact q v G' H' e w' a.dat
theorem EvR.to {a : Addr} (h : EvR te ρ a) (k : Z (.r a) O) : Ev te ρ O Z := fun F G H σ w s Q q => h G H σ s Q (q _ G H (.r a) O k (Ex.refl G) w rfl)
theorem EvD.is {d' : PyData} (h : EvD te ρ O d) (e : d = d') : EvD te ρ O d' := e ▸ h
theorem EvT.is {b b' : Bool} (h : EvT tt ρ O b) (e : b = b') : EvT tt ρ O b' := e ▸ h
theorem ev_var {i : Nat} (h : ρ[i]? = some (.d d)) : EvD (tVar i) ρ O d := fun F G H σ w s Q q => by
  obtain ⟨ov, h1, v, rfl, h3⟩ := s.get h
  exact ⟨v, h1, q v G H (Ex.refl G) w h3⟩
theorem ev_ref {i : Nat} {a : Addr} (h : ρ[i]? = some (.r a)) : EvR (tVar i) ρ a := fun G H σ s Q q => by
  obtain ⟨ov, h1, rfl⟩ := s.get h
  exact ⟨_, h1, q⟩
theorem ev_int {i : Int} : EvD (tC (.int i)) ρ O (.int i) := fun F G H σ w s Q q => q _ G H (Ex.refl G) w (.int i)
theorem ev_bl {b : Bool} : EvD (tC (.bl b)) ρ O (.bool b) := fun F G H σ w s Q q => q _ G H (Ex.refl G) w (.bl b)
theorem ev_str {b : Str} : EvD (tC (.str b)) ρ O (.str b) := fun F G H σ w s Q q => q _ G H (Ex.refl G) w (.str b)
theorem ev_non : EvD (tC .non) ρ O .none := fun F G H σ w s Q q => q _ G H (Ex.refl G) w .non
theorem ev_op (ha : EvD ta ρ O x) (hb : EvD tb ρ O y) (hr : RD r x y z) : EvD (tOp r ta tb) ρ O z := fun F G H σ w s Q q =>
  ha F G H σ w s _ fun v1 G1 H1 e1 w1 k1 => hb F G1 H1 σ w1 (s.mono e1) _ fun v2 G2 H2 e2 w2 k2 => hr _ G2 H2 v1 v2 w2 (k1.mono e2) k2 Q fun v G' H' e w' k => q v G' H' ((e1.trans e2).trans e) w' k
theorem ev_un {r : V → Hp → VK → Prop} (ha : EvD ta ρ O x) (hr : RU r x z) : EvD (tUn r ta) ρ O z := fun F G H σ w s Q q =>
  ha F G H σ w s _ fun v1 G1 H1 e1 w1 k1 => hr _ G1 H1 v1 w1 k1 Q fun v G' H' e w' k => q v G' H' (e1.trans e) w' k
/-- the general form: both parts may change what is owned -/
theorem ev_opX (ha : Ev ta ρ O (fun r1 O1 => ∃ x, r1 = .d x ∧ Ev tb ρ O1 (fun r2 O2 => ∃ y z, r2 = .d y ∧ RD r x y z ∧ Z (.d z) O2))) : Ev (tOp r ta tb) ρ O Z := fun F G H σ w s Q q =>
  ha F G H σ w s _ fun v1 G1 H1 r1 O1 z1 e1 w1 k1 => by
    obtain ⟨x, rfl, hb⟩ := z1
    exact hb F G1 H1 σ w1 (s.mono e1) _ fun v2 G2 H2 r2 O2 z2 e2 w2 k2 => by
      obtain ⟨y, z, rfl, hr, hz⟩ := z2
      exact hr (O2 ++ F) G2 H2 v1 v2 w2 (k1.dat.mono e2) k2.dat Q fun v G' H' e w' k => q v G' H' _ O2 hz ((e1.trans e2).trans e) w' (.of k)
theorem ev_unX {r : V → Hp → VK → Prop} (ha : Ev ta ρ O (fun r1 O1 => ∃ x z, r1 = .d x ∧ RU r x z ∧ Z (.d z) O1)) : Ev (tUn r ta) ρ O Z := fun F G H σ w s Q q =>
  ha F G H σ w s _ fun v1 G1 H1 r1 O1 z1 e1 w1 k1 => by
    obtain ⟨x, z, rfl, hr, hz⟩ := z1
    exact hr (O1 ++ F) G1 H1 v1 w1 k1.dat Q fun v G' H' e w' k => q v G' H' _ O1 hz (e1.trans e) w' (.of k)
theorem ea_nil : EvA tNil ρ O [] := fun F G H σ w s Q q => q [] G H (Ex.refl G) w .nil
theorem ea_cons {tr : TA} (h : EvD ta ρ O x) (hr : EvA tr ρ O ds) : EvA (tCons ta tr) ρ O (x :: ds) := fun F G H σ w s Q q =>
  h F G H σ w s _ fun v1 G1 H1 e1 w1 k1 => hr F G1 H1 σ w1 (s.mono e1) _ fun vs G2 H2 e2 w2 k2 => q (v1 :: vs) G2 H2 (e1.trans e2) w2 (.cons (k1.mono e2) k2)
theorem ex_nil {Z : List E → Own → Prop} (h : Z [] O) : EvX tNil ρ O Z := fun F G H σ w s Q q => q [] G H [] O h (Ex.refl G) w .nil
theorem ex_cons {tr : TA} {Z : List E → Own → Prop} (h : Ev ta ρ O (fun r O1 => EvX tr ρ O1 (fun es O2 => Z (r :: es) O2))) : EvX (tCons ta tr) ρ O Z := fun F G H σ w s Q q =>
  h F G H σ w s _ fun v1 G1 H1 r1 O1 z1 e1 w1 k1 => z1 F G1 H1 σ w1 (s.mono e1) _ fun vs G2 H2 es O2 z2 e2 w2 k2 => q (v1 :: vs) G2 H2 _ O2 z2 (e1.trans e2) w2 (.cons (k1.mono e2) k2)
theorem EvA.ex {ta : TA} {Z : List E → Own → Prop} (h : EvA ta ρ O ds) (k : Z (ds.map E.d) O) : EvX ta ρ O Z := fun F G H σ w s Q q =>
  h F G H σ w s _ fun vs G1 H1 e1 w1 k1 => q vs G1 H1 _ O k e1 w1 (.of k1)
theorem EvX.weak {ta : TA} {Z Y : List E → Own → Prop} (h : EvX ta ρ O Z) (k : ∀ r O', Z r O' → Y r O') : EvX ta ρ O Y := fun F G H σ w s Q q => h F G H σ w s Q fun v G' H' r O' z => q v G' H' r O' (k r O' z)
theorem ev_cb {ta : TA} {r : List V → Hp → VK → Prop} (h : EvA ta ρ O ds) (hr : RC r ds z) : EvD (tCB r ta) ρ O z := fun F G H σ w s Q q =>
  h F G H σ w s _ fun vs G1 H1 e1 w1 k1 => hr _ G1 H1 vs w1 k1 Q fun v G' H' e w' k => q v G' H' (e1.trans e) w' k
theorem ev_cbX {ta : TA} {r : List V → Hp → VK → Prop} (h : EvX ta ρ O (fun es O1 => ∃ ds z, es = ds.map E.d ∧ RC r ds z ∧ Z (.d z) O1)) : Ev (tCB r ta) ρ O Z := fun F G H σ w s Q q =>
  h F G H σ w s _ fun vs G1 H1 es O1 z1 e1 w1 k1 => by
    obtain ⟨ds, z, rfl, hr, hz⟩ := z1
    exact hr (O1 ++ F) G1 H1 vs w1 k1.dats Q fun v G' H' e w' k => q v G' H' _ O1 hz (e1.trans e) w' (.of k)
theorem ev_tup {ta : TA} (h : EvA ta ρ O ds) (hl : ds.length ≤ 100000) : EvD (tTup ta) ρ O (.tuple ds) := fun F G H σ w s Q q =>
  h F G H σ w s _ fun vs G1 H1 e1 w1 k1 => ⟨sz_of (by rw [k1.len]; exact hl), fun p hp => by
    obtain ⟨e, w2⟩ := w1.new hp (.tup vs)
    exact q _ _ _ (e1.trans e) w2 (.tup upd_same (k1.mono e))⟩
theorem ev_lst {ta : TA} (h : EvA ta ρ O ds) (hl : ds.length ≤ 100000) : EvD (tLst ta) ρ O (.list ds) := fun F G H σ w s Q q =>
  h F G H σ w s _ fun vs G1 H1 e1 w1 k1 => ⟨sz_of (by rw [k1.len]; exact hl), fun p hp => by
    obtain ⟨e, w2⟩ := w1.new hp (.lst vs)
    exact q _ _ _ (e1.trans e) w2 (.lst upd_same (k1.mono e))⟩
theorem ev_tupX {ta : TA} (h : EvX ta ρ O (fun es O1 => ∃ ds, es = ds.map E.d ∧ ds.length ≤ 100000 ∧ Z (.d (.tuple ds)) O1)) : Ev (tTup ta) ρ O Z := fun F G H σ w s Q q =>
  h F G H σ w s _ fun vs G1 H1 es O1 z1 e1 w1 k1 => by
    obtain ⟨ds, rfl, hl, hz⟩ := z1
    have k2 := k1.dats
    refine ⟨sz_of (by rw [k2.len]; exact hl), fun p hp => ?_⟩
    obtain ⟨e, w2⟩ := w1.new hp (.tup vs)
    exact q _ _ _ _ O1 hz (e1.trans e) w2 (.of (.tup upd_same (k2.mono e)))
theorem ev_lstX {ta : TA} (h : EvX ta ρ O (fun es O1 => ∃ ds, es = ds.map E.d ∧ ds.length ≤ 100000 ∧ Z (.d (.list ds)) O1)) : Ev (tLst ta) ρ O Z := fun F G H σ w s Q q =>
  h F G H σ w s _ fun vs G1 H1 es O1 z1 e1 w1 k1 => by
    obtain ⟨ds, rfl, hl, hz⟩ := z1
    have k2 := k1.dats
    refine ⟨sz_of (by rw [k2.len]; exact hl), fun p hp => ?_⟩
    obtain ⟨e, w2⟩ := w1.new hp (.lst vs)
    exact q _ _ _ _ O1 hz (e1.trans e) w2 (.of (.lst upd_same (k2.mono e)))
/-- a list that stays its own: a new owned cell in front -/
theorem ev_own {ta : TA} (h : EvX ta ρ O (fun es O1 => es.length ≤ 100000 ∧ ∀ p, Z (.r p) ((p, .lst es) :: O1))) : Ev (tLst ta) ρ O Z := fun F G H σ w s Q q =>
  h F G H σ w s _ fun vs G1 H1 es O1 z1 e1 w1 k1 => ⟨sz_of (by rw [k1.len]; exact z1.1), fun p hp => q _ G1 _ (.r p) _ (z1.2 p) e1 (w1.newOwn hp (show Or G1 (.lst vs) (.lst es) from k1)) rfl⟩
end

/-! ### tests, and, or, not, conditional, chains -/
section
variable {ρ : List E} {O O' : Own} {te ta tb tc : TE} {tt tu : TT} {x y z w' d : PyData} {ds : List PyData} {Z Y : E → Own → Prop} {r r' : R2} {a b : Bool}
theorem et_B (h : EvD te ρ O (.bool b)) : EvT (tB te) ρ O b := fun F G H σ w s Q q => h F G H σ w s _ fun v G' H' e w' k => ⟨b, k.isBl, q G' H' e w'⟩
theorem et_test (h : EvD te ρ O (.bool b)) : EvT (tTest te) ρ O b := fun F G H σ w s Q q => h F G H σ w s _ fun v G' H' e w' k => ⟨b, k.isBl, q G' H' e w'⟩
theorem EvT.toX {Z : Bool → Own → Prop} (h : EvT tt ρ O b) (k : Z b O) : EvTX tt ρ O Z := fun F G H σ w s Q q => h F G H σ w s Q fun G' H' e w' => q G' H' b O k e w'
theorem et_BX {Z : Bool → Own → Prop} (h : Ev te ρ O (fun r O1 => ∃ b, r = .d (.bool b) ∧ Z b O1)) : EvTX (tB te) ρ O Z := fun F G H σ w s Q q => h F G H σ w s _ fun v G' H' r O' z e w' k => by
  obtain ⟨b, rfl, z⟩ := z
  exact ⟨b, k.dat.isBl, q G' H' b O' z e w'⟩
theorem et_testX {Z : Bool → Own → Prop} (h : Ev te ρ O (fun r O1 => ∃ b, r = .d (.bool b) ∧ Z b O1)) : EvTX (tTest te) ρ O Z := fun F G H σ w s Q q => h F G H σ w s _ fun v G' H' r O' z e w' k => by
  obtain ⟨b, rfl, z⟩ := z
  exact ⟨b, k.dat.isBl, q G' H' b O' z e w'⟩
theorem et_notX {Z : Bool → Own → Prop} (h : EvTX tt ρ O (fun b O1 => Z (!b) O1)) : EvTX (tNot tt) ρ O Z := fun F G H σ w s Q q => h F G H σ w s _ fun G' H' b O' z e w' => q G' H' (!b) O' z e w'
theorem et_yes : EvT tYes ρ O true := fun F G H σ w s Q q => q G H (Ex.refl G) w
theorem et_not (h : EvT tt ρ O a) : EvT (tNot tt) ρ O (!a) := fun F G H σ w s Q q => h F G H σ w s _ fun G' H' e w' => q G' H' e w'
theorem et_and (h1 : EvT tt ρ O a) (h2 : a = true → EvT tu ρ O b) : EvT (tAnd tt tu) ρ O (a && b) := fun F G H σ w s Q q => h1 F G H σ w s _ fun G1 H1 e1 w1 => by
  cases a with
  | true => exact iteT (h2 rfl F G1 H1 σ w1 (s.mono e1) Q fun G2 H2 e2 w2 => q G2 H2 (e1.trans e2) w2)
  | false => exact iteF (q G1 H1 e1 w1)
theorem et_or (h1 : EvT tt ρ O a) (h2 : a = false → EvT tu ρ O b) : EvT (tOr tt tu) ρ O (a || b) := fun F G H σ w s Q q => h1 F G H σ w s _ fun G1 H1 e1 w1 => by
  cases a with
  | true => exact iteT (q G1 H1 e1 w1)
  | false => exact iteF (h2 rfl F G1 H1 σ w1 (s.mono e1) Q fun G2 H2 e2 w2 => q G2 H2 (e1.trans e2) w2)
theorem ev_and (h1 : EvD ta ρ O (.bool a)) (h2 : a = true → EvD tb ρ O (.bool b)) : EvD (tAndV ta tb) ρ O (.bool (a && b)) := fun F G H σ w s Q q => h1 F G H σ w s _ fun v G1 H1 e1 w1 k1 => ⟨a, k1.isBl, by
  cases a with
  | true => exact iteT (h2 rfl F G1 H1 σ w1 (s.mono e1) Q fun v G2 H2 e2 w2 k2 => q v G2 H2 (e1.trans e2) w2 k2)
  | false => exact iteF (q _ G1 H1 e1 w1 (.bl false))⟩
theorem ev_or (h1 : EvD ta ρ O (.bool a)) (h2 : a = false → EvD tb ρ O (.bool b)) : EvD (tOrV ta tb) ρ O (.bool (a || b)) := fun F G H σ w s Q q => h1 F G H σ w s _ fun v G1 H1 e1 w1 k1 => ⟨a, k1.isBl, by
  cases a with
  | true => exact iteT (q _ G1 H1 e1 w1 (.bl true))
  | false => exact iteF (h2 rfl F G1 H1 σ w1 (s.mono e1) Q fun v G2 H2 e2 w2 k2 => q v G2 H2 (e1.trans e2) w2 k2)⟩
theorem ev_not (h1 : EvD ta ρ O (.bool a)) : EvD (tNotV ta) ρ O (.bool (!a)) := fun F G H σ w s Q q => h1 F G H σ w s _ fun v G1 H1 e1 w1 k1 => ⟨a, k1.isBl, q _ G1 H1 e1 w1 (.bl _)⟩
theorem ev_if (h : EvT tt ρ O b) (h1 : b = true → EvD ta ρ O d) (h2 : b = false → EvD tb ρ O d) : EvD (tIf tt ta tb) ρ O d := fun F G H σ w s Q q => h F G H σ w s _ fun G1 H1 e1 w1 => by
  cases b with
  | true => exact iteT (h1 rfl F G1 H1 σ w1 (s.mono e1) Q fun v G2 H2 e2 w2 k2 => q v G2 H2 (e1.trans e2) w2 k2)
  | false => exact iteF (h2 rfl F G1 H1 σ w1 (s.mono e1) Q fun v G2 H2 e2 w2 k2 => q v G2 H2 (e1.trans e2) w2 k2)
theorem ev_ifX (h : EvT tt ρ O b) (h1 : b = true → Ev ta ρ O Z) (h2 : b = false → Ev tb ρ O Z) : Ev (tIf tt ta tb) ρ O Z := fun F G H σ w s Q q => h F G H σ w s _ fun G1 H1 e1 w1 => by
  cases b with
  | true => exact iteT (h1 rfl F G1 H1 σ w1 (s.mono e1) Q fun v G2 H2 r O2 z e2 w2 k2 => q v G2 H2 r O2 z (e1.trans e2) w2 k2)
  | false => exact iteF (h2 rfl F G1 H1 σ w1 (s.mono e1) Q fun v G2 H2 r O2 z e2 w2 k2 => q v G2 H2 r O2 z (e1.trans e2) w2 k2)
theorem ev_chain (ha : EvD ta ρ O x) (hb : EvD tb ρ O y) (hr : RD r x y (.bool a)) (hc : a = true → ∃ z, EvD tc ρ O z ∧ RD r' y z (.bool b)) : EvD (tChain r r' ta tb tc) ρ O (.bool (a && b)) := fun F G H σ w s Q q =>
  ha F G H σ w s _ fun v1 G1 H1 e1 w1 k1 => hb F G1 H1 σ w1 (s.mono e1) _ fun v2 G2 H2 e2 w2 k2 => hr _ G2 H2 v1 v2 w2 (k1.mono e2) k2 _ fun v3 G3 H3 e3 w3 k3 => ⟨a, k3.isBl, by
    cases a with
    | true =>
      obtain ⟨z, hz, hr'⟩ := hc rfl
      exact iteT (hz F G3 H3 σ w3 (((s.mono e1).mono e2).mono e3) _ fun v4 G4 H4 e4 w4 k4 => hr' _ G4 H4 v2 v4 w4 ((k2.mono e3).mono e4) k4 Q fun v G' H' e w' k => q v G' H' ((((e1.trans e2).trans e3).trans e4).trans e) w' k)
    | false => exact iteF (q _ G3 H3 ((e1.trans e2).trans e3) w3 (.bl false))⟩
end
end Ly
namespace Ly
open PySem L2 Evl
/-! ### operations on data -/
theorem sz5 {n : Nat} (h : n ≤ 100000) : n ≤ sizeLine := sz_of h
section
variable {K : PySem.W.Frag} {x y z d : PyData} {xs ys ds : List PyData} {i j : Int} {r r' : R2}
theorem RD.inl (h : RD r x y z) : RD (fun a b H Q => r a b H Q ∨ r' a b H Q) x y z := fun F G H vx vy w a b Q q => .inl (h F G H vx vy w a b Q q)
theorem RD.inr (h : RD r' x y z) : RD (fun a b H Q => r a b H Q ∨ r' a b H Q) x y z := fun F G H vx vy w a b Q q => .inr (h F G H vx vy w a b Q q)
theorem rd_I0 {g : Int → Int → V} (h : ∀ G, Da G (g i j) z) : RD (rI0 g) (.int i) (.int j) z := fun F G H vx vy w a b Q q => ⟨i, j, a.isInt, b.isInt, q _ G H (Ex.refl G) w (h G)⟩
theorem rd_I {C : Int → Int → Prop} {g : Int → Int → V} (c : C i j) (h : ∀ G, Da G (g i j) z) : RD (rI C g) (.int i) (.int j) z := fun F G H vx vy w a b Q q => ⟨i, j, a.isInt, b.isInt, c, q _ G H (Ex.refl G) w (h G)⟩
theorem rd_catA (hl : xs.length + ys.length ≤ 100000) : RD (rCatA K) (.tuple xs) (.tuple ys) (.tuple (xs ++ ys)) := fun F G H vx vy w a b Q q => by
  obtain ⟨p, us, rfl, hp, hs⟩ := a.isTup
  obtain ⟨p2, us2, rfl, hp2, hs2⟩ := b.isTup
  refine ⟨p, p2, us, us2, rfl, rfl, SqT.of (w.sub _ _ hp), SqT.of (w.sub _ _ hp2), sz5 (by rw [hs.len, hs2.len]; exact hl), fun e => ?_, fun e e2 => ?_, fun _ _ t ht => ?_⟩
  · have : xs = [] := hs.nil_iff.mp e
    subst this
    exact q _ G H (Ex.refl G) w b
  · have : ys = [] := hs2.nil_iff.mp e2
    subst this
    rw [List.append_nil] at q
    exact q _ G H (Ex.refl G) w a
  · obtain ⟨e, w2⟩ := w.new ht (.tup (us ++ us2))
    exact q _ _ _ e w2 (.tup upd_same ((hs.append hs2).mono e))
theorem rd_cat (hl : xs.length + ys.length ≤ 100000) : RD rCat (.list xs) (.list ys) (.list (xs ++ ys)) := fun F G H vx vy w a b Q q => by
  obtain ⟨p, us, rfl, hp, hs⟩ := a.isLst
  obtain ⟨p2, us2, rfl, hp2, hs2⟩ := b.isLst
  refine ⟨p, p2, us, us2, rfl, rfl, w.sub _ _ hp, w.sub _ _ hp2, sz5 (by rw [hs.len, hs2.len]; exact hl), fun t ht => ?_⟩
  obtain ⟨e, w2⟩ := w.new ht (.lst (us ++ us2))
  exact q _ _ _ e w2 (.lst upd_same ((hs.append hs2).mono e))
def rAddS0 : R2 := fun x y H Q => ∃ i j, x = .str i ∧ y = .str j ∧ i.length + j.length ≤ sizeLine ∧ Q (.str (i ++ j)) H
theorem rd_addS {s t : Str} (hl : s.length + t.length ≤ 10000000) : RD rAddS0 (.str s) (.str t) (.str (s ++ t)) := fun F G H vx vy w a b Q q =>
  ⟨s, t, a.isStr, b.isStr, Nat.le_trans hl (by decide), q _ G H (Ex.refl G) w (.str _)⟩
def rAddU (K : PySem.W.Frag) : R2 := fun x y H Q => rI0 (fun i j => .int (i + j)) x y H Q ∨ (rAddS0 x y H Q ∨ (rCatA K x y H Q ∨ rCat x y H Q))
theorem op_addU {X : Cx} : OpR X (binaryOp .Add) (rAddU X.K) := op_add.or ((show OpR X (binaryOp .Add) rAddS0 from op_add_str).or (op_catA.or op_cat))
theorem ad_int : RD (rAddU K) (.int i) (.int j) (.int (i + j)) := (rd_I0 fun _ => .int _).inl
theorem ad_str {s t : Str} (hl : s.length + t.length ≤ 10000000) : RD (rAddU K) (.str s) (.str t) (.str (s ++ t)) := (rd_addS hl).inl.inr
theorem ad_tup (hl : xs.length + ys.length ≤ 100000) : RD (rAddU K) (.tuple xs) (.tuple ys) (.tuple (xs ++ ys)) := (rd_catA hl).inl.inr.inr
theorem ad_lst (hl : xs.length + ys.length ≤ 100000) : RD (rAddU K) (.list xs) (.list ys) (.list (xs ++ ys)) := (rd_cat hl).inr.inr.inr
theorem rd_sub : RD (rI0 fun i j => .int (i - j)) (.int i) (.int j) (.int (i - j)) := rd_I0 fun _ => .int _
theorem rd_mul (c : CMul i j) : RD (rI CMul fun i j => .int (i * j)) (.int i) (.int j) (.int (i * j)) := rd_I c fun _ => .int _
theorem rd_mod (c : 0 < j) : RD (rI (fun _ j => 0 < j) fun i j => .int (i % j)) (.int i) (.int j) (.int (i % j)) := rd_I (C := fun _ j => 0 < j) c fun _ => .int _
theorem rd_fdiv (c : CDiv i j) : RD (rI CDiv fun i j => .int (i / j)) (.int i) (.int j) (.int (i / j)) := rd_I c fun _ => .int _
theorem rd_pow (c : CPow i j) : RD (rI CPow fun i j => .int (i ^ j.toNat)) (.int i) (.int j) (.int (i ^ j.toNat)) := rd_I c fun _ => .int _
theorem rd_lt : RD (rI0 fun i j => .bl (decide (i < j))) (.int i) (.int j) (.bool (decide (i < j))) := rd_I0 fun _ => .bl _
theorem rd_le : RD (rI0 fun i j => .bl (decide (i ≤ j))) (.int i) (.int j) (.bool (decide (i ≤ j))) := rd_I0 fun _ => .bl _
theorem rd_gt : RD (rI0 fun i j => .bl (decide (j < i))) (.int i) (.int j) (.bool (decide (j < i))) := rd_I0 fun _ => .bl _
theorem rd_ge : RD (rI0 fun i j => .bl (decide (j ≤ i))) (.int i) (.int j) (.bool (decide (j ≤ i))) := rd_I0 fun _ => .bl _
theorem rd_eq (hx : SeqAt.shaped x = true) (hy : SeqAt.shaped y = true) : RD (rEqD K) x y (.bool (PyData.eqv x y)) := fun F G H vx vy w a b Q q =>
  ⟨x, y, (w.da a).dp, (w.da b).dp, hx, hy, q _ G H (Ex.refl G) w (.bl _)⟩
theorem rd_ne (hx : SeqAt.shaped x = true) (hy : SeqAt.shaped y = true) : RD (rNeD K) x y (.bool (!PyData.eqv x y)) := fun F G H vx vy w a b Q q =>
  ⟨x, y, (w.da a).dp, (w.da b).dp, hx, hy, q _ G H (Ex.refl G) w (.bl _)⟩
/-- is None, is True .. -/
def isNonD : PyData → Bool | .none => true | _ => false
theorem da_non {G : Hp} {v : V} (h : Da G v x) : decide (v = .non) = isNonD x := by
  cases h <;> first | exact decide_eq_true rfl | exact decide_eq_false (fun e => nomatch e)
def rIsN0 : R2 := fun x y H Q => y = .non ∧ Q (.bl (decide (x = .non))) H
def rIsNN0 : R2 := fun x y H Q => y = .non ∧ Q (.bl (!decide (x = .non))) H
def rIsU : R2 := fun x y H Q => rIsN0 x y H Q ∨ rIsB x y H Q
def rIsNotU : R2 := fun x y H Q => rIsNN0 x y H Q ∨ rNotB x y H Q
theorem op_isU {X : Cx} : OpR X (compareOp .Is) rIsU := (show OpR X (compareOp .Is) rIsN0 from op_isN).or op_isBl
theorem op_isNotU {X : Cx} : OpR X (compareOp .IsNot) rIsNotU := (show OpR X (compareOp .IsNot) rIsNN0 from op_notN).or op_notBl
theorem is_non : RD rIsU x .none (.bool (isNonD x)) := fun F G H vx vy w a b Q q => .inl ⟨b.isNon, q _ G H (Ex.refl G) w (by rw [da_non a]; exact .bl _)⟩
theorem is_notnon : RD rIsNotU x .none (.bool (!isNonD x)) := fun F G H vx vy w a b Q q => .inl ⟨b.isNon, q _ G H (Ex.refl G) w (by rw [da_non a]; exact .bl _)⟩
theorem is_bl {a b : Bool} : RD rIsU (.bool a) (.bool b) (.bool (decide (a = b))) := fun F G H vx vy w h k Q q => .inr ⟨a, b, h.isBl, k.isBl, q _ G H (Ex.refl G) w (.bl _)⟩
theorem is_notbl {a b : Bool} : RD rIsNotU (.bool a) (.bool b) (.bool (!decide (a = b))) := fun F G H vx vy w h k Q q => .inr ⟨a, b, h.isBl, k.isBl, q _ G H (Ex.refl G) w (.bl _)⟩
/-! ### items and slices -/
theorem ix_tupD (h : atI xs i = some d) : RD (rIx K) (.tuple xs) (.int i) d := fun F G H vx vy w a b Q q => by
  obtain ⟨p, us, rfl, hp, hs⟩ := a.isTup
  obtain ⟨v, h1, h2⟩ := hs.atI h
  exact .inr (.inl ⟨p, us, i, v, rfl, b.isInt, SqT.of (w.sub _ _ hp), h1, q v G H (Ex.refl G) w h2⟩)
theorem ix_lstD (h : atI xs i = some d) : RD (rIx K) (.list xs) (.int i) d := fun F G H vx vy w a b Q q => by
  obtain ⟨p, us, rfl, hp, hs⟩ := a.isLst
  obtain ⟨v, h1, h2⟩ := hs.atI h
  exact .inl ⟨p, us, i, v, rfl, b.isInt, SqL.of (w.sub _ _ hp), h1, q v G H (Ex.refl G) w h2⟩
theorem ix_strD {s : Str} {c : Nat} (hz : s.length ≤ 10000000) (h : atI s.cps.toList i = some c) : RD (rIx K) (.str s) (.int i) (.str ⟨#[c]⟩) := fun F G H vx vy w a b Q q =>
  .inr (.inr ⟨s, i, c, a.isStr, b.isInt, Nat.le_trans hz (by decide), h, q _ G H (Ex.refl G) w (.str _)⟩)
def cutD (xs : List PyData) (lo hi : Option Int) : List PyData := (xs.drop (HT.sIx xs.length 0 lo)).take (HT.sIx xs.length xs.length hi - HT.sIx xs.length 0 lo)
def rSlU (K : PySem.W.Frag) : V → Option Int → Option Int → Hp → VK → Prop := fun x lo hi H Q => rSlA K x lo hi H Q ∨ (rSlL K x lo hi H Q ∨ rSlS x lo hi H Q)
theorem sl_U {X : Cx} : SlR X (rSlU X.K) := sl_tupA.or (sl_list.or sl_str)
theorem DaS.cut {G : Hp} {vs : List V} {lo hi : Option Int} (s : DaS G vs ds) : DaS G (cutV vs lo hi) (cutD ds lo hi) := by
  unfold cutV cutD
  rw [s.len]
  exact (s.drop _).take _
theorem rs_tup {lo hi : Option Int} : RS (rSlU K) (.tuple xs) lo hi (.tuple (cutD xs lo hi)) := fun F G H vx w a Q q => by
  obtain ⟨p, us, rfl, hp, hs⟩ := a.isTup
  refine .inl ⟨p, us, rfl, SqT.of (w.sub _ _ hp), fun e => ?_, fun e t ht => ?_⟩
  · have : cutD xs lo hi = xs := by
      unfold cutD
      rw [← hs.len, e.1, e.2, List.drop_zero, Nat.sub_zero, hs.len, List.take_length]
    rw [this] at q
    exact q _ G H (Ex.refl G) w a
  · obtain ⟨e, w2⟩ := w.new ht (.tup (cutV us lo hi))
    exact q _ _ _ e w2 (.tup upd_same (hs.cut.mono e))
theorem rs_lst {lo hi : Option Int} : RS (rSlU K) (.list xs) lo hi (.list (cutD xs lo hi)) := fun F G H vx w a Q q => by
  obtain ⟨p, us, rfl, hp, hs⟩ := a.isLst
  refine .inr (.inl ⟨p, us, rfl, SqL.of (w.sub _ _ hp), fun t ht => ?_⟩)
  obtain ⟨e, w2⟩ := w.new ht (.lst (cutV us lo hi))
  exact q _ _ _ e w2 (.lst upd_same (hs.cut.mono e))
theorem rs_str {lo hi : Option Int} {s : Str} (hz : s.length ≤ 10000000) : RS (rSlU K) (.str s) lo hi (.str (cutS s lo hi)) := fun F G H vx w a Q q =>
  .inr (.inr ⟨s, a.isStr, Nat.le_trans hz (by decide), q _ G H (Ex.refl G) w (.str _)⟩)
variable {ρ : List E} {O : Own} {te ta tb : TE} {tl th : TO}
theorem eo_no : EvO tNoPart ρ O none := fun F G H σ w s Q q => q G H (Ex.refl G) w
theorem eo_some (h : EvD te ρ O (.int i)) : EvO (tPart te) ρ O (some i) := fun F G H σ w s Q q => h F G H σ w s _ fun v G' H' e w' k => ⟨i, k.isInt, q G' H' e w'⟩
theorem ev_sl {rr : V → Option Int → Option Int → Hp → VK → Prop} {lo hi : Option Int} (h : EvD te ρ O x) (hl : EvO tl ρ O lo) (hh : EvO th ρ O hi) (hr : RS rr x lo hi z) : EvD (tSl rr te tl th) ρ O z := fun F G H σ w s Q q =>
  h F G H σ w s _ fun v1 G1 H1 e1 w1 k1 => hl F G1 H1 σ w1 (s.mono e1) _ fun G2 H2 e2 w2 => hh F G2 H2 σ w2 ((s.mono e1).mono e2) _ fun G3 H3 e3 w3 =>
    hr _ G3 H3 v1 w3 ((k1.mono e2).mono e3) Q fun v G' H' e w' k => q v G' H' (((e1.trans e2).trans e3).trans e) w' k
theorem ErS.get {G : Hp} : ∀ {vs : List V} {es : List E} {j : Nat} {x : E}, ErS G vs es → es[j]? = some x → ∃ v, vs[j]? = some v ∧ Er G (some v) x
  | _, _, _, _, .nil, h => by simp at h
  | _, _, 0, _, .cons h _, e => by simp at e; subst e; exact ⟨_, rfl, h⟩
  | _, _, j + 1, _, .cons _ s, e => by
    obtain ⟨v, h1, h2⟩ := s.get (j := j) (by simpa using e)
    exact ⟨v, by simpa using h1, h2⟩
/-- an item of a list that is owned -/
theorem ev_ixO {a : Addr} {k j : Nat} {es : List E} (h : EvR ta ρ a) (hj : EvD tb ρ O (.int (j : Int))) (ho : O[k]? = some (a, .lst es)) (he : es[j]? = some (.d d)) : EvD (tOp (rIx K) ta tb) ρ O d := fun F G H σ w s Q q =>
  h G H σ s _ (hj F G H σ w s _ fun v G' H' e w' kk => by
    have ho' : (O ++ F)[k]? = some (a, .lst es) := by rw [List.getElem?_append_left (List.getElem?_eq_some_iff.mp ho).1]; exact ho
    obtain ⟨o, h1, h2, _⟩ := w'.at ho'
    obtain ⟨xs, rfl, h3⟩ := h2.lstE
    obtain ⟨u, hu, hd⟩ := h3.get he
    have hd := hd.dat
    exact .inl ⟨a, xs, (j : Int), u, rfl, kk.isInt, SqL.of h1, atI_nat hu, q u G' H' e w' hd⟩)
end
end Ly
namespace Ly
open PySem L2 Evl
/-! ### built-ins by data -/
def tyName : PyData → String
  | .none => "NoneType" | .bool _ => "bool" | .int _ => "int" | .str _ => "str" | .list _ => "list" | .tuple _ => "tuple" | .dict _ => "dict"
theorem Da.ty {K : PySem.W.Frag} {H : Hp} {v : V} {d : PyData} (h : Da H v d) : TyX K H v (.type (tyName d)) := by
  cases h with
  | non => exact .base .non
  | bl b => exact .base (.bl b)
  | int i => exact .base (.int i)
  | str x => exact .base (.str x)
  | lst e _ => exact .base (.lst e)
  | tup e _ => exact .base (.tup e)
def isI (T : String) (d : PyData) : Bool := (kitB (tyName d) T).getD false
section
variable {K : PySem.W.Frag} {x y z d : PyData} {xs ys ds : List PyData} {i j : Int} {r r' : R2} {ρ : List E} {O : Own} {te ta tb : TE}
theorem ev_isi {T : String} {b : Bool} (h : EvD te ρ O d) (hb : kitB (tyName d) T = some b) : EvD (tCB (rIsi K) (tCons te (tCons (tC (.ty T)) tNil))) ρ O (.bool b) := fun F G H σ w s Q q =>
  h F G H σ w s _ fun v G1 H1 e1 w1 k1 => ⟨v, .ty T, _, _, b, rfl, .ty T, (w1.da k1).ty, kit_ty hb, q _ G1 H1 e1 w1 (.bl b)⟩
theorem RC.inl {r r' : List V → Hp → VK → Prop} (h : RC r xs z) : RC (fun a H Q => r a H Q ∨ r' a H Q) xs z := fun F G H vs w a Q q => .inl (h F G H vs w a Q q)
theorem RC.inr {r r' : List V → Hp → VK → Prop} (h : RC r' xs z) : RC (fun a H Q => r a H Q ∨ r' a H Q) xs z := fun F G H vs w a Q q => .inr (h F G H vs w a Q q)
theorem DaS.one {G : Hp} {vs : List V} (h : DaS G vs [d]) : ∃ v, vs = [v] ∧ Da G v d := by
  cases h with
  | cons a s => cases s; exact ⟨_, rfl, a⟩
def rLenQ (K : PySem.W.Frag) : List V → Hp → VK → Prop := fun xs H Q => ∃ p ys, xs = [.ref p] ∧ (SqL K H p ys ∨ SqT K H p ys) ∧ Q (.int ys.length) H
def rLenT : List V → Hp → VK → Prop := fun xs H Q => ∃ z, xs = [.str z] ∧ z.length ≤ sizeLine ∧ Q (.int z.length) H
def rLenU (K : PySem.W.Frag) : List V → Hp → VK → Prop := fun xs H Q => rLenQ K xs H Q ∨ rLenT xs H Q
theorem call_lenU {X : Cx} : CallR X (.builtin "len") (rLenU X.K) := (show CallR X (.builtin "len") (rLenQ X.K) from call_len_seq).or (show CallR X (.builtin "len") rLenT from call_len_str)
theorem len_tup : RC (rLenU K) [.tuple xs] (.int (xs.length : Int)) := fun F G H vs w a Q q => by
  obtain ⟨v, rfl, k⟩ := a.one
  obtain ⟨p, us, rfl, hp, hs⟩ := k.isTup
  exact .inl ⟨p, us, rfl, .inr (SqT.of (w.sub _ _ hp)), by rw [hs.len]; exact q _ G H (Ex.refl G) w (.int _)⟩
theorem len_lst : RC (rLenU K) [.list xs] (.int (xs.length : Int)) := fun F G H vs w a Q q => by
  obtain ⟨v, rfl, k⟩ := a.one
  obtain ⟨p, us, rfl, hp, hs⟩ := k.isLst
  exact .inl ⟨p, us, rfl, .inl (SqL.of (w.sub _ _ hp)), by rw [hs.len]; exact q _ G H (Ex.refl G) w (.int _)⟩
theorem len_str' {s : Str} (hz : s.length ≤ 10000000) : RC (rLenU K) [.str s] (.int (s.length : Int)) := fun F G H vs w a Q q => by
  obtain ⟨v, rfl, k⟩ := a.one
  exact .inr ⟨s, by rw [k.isStr], Nat.le_trans hz (by decide), q _ G H (Ex.refl G) w (.int _)⟩
theorem rc_all {bs : List Bool} : RC (rAll K) [.list (bs.map .bool)] (.bool (bs.all id)) := fun F G H vs w a Q q => by
  obtain ⟨v, rfl, k⟩ := a.one
  obtain ⟨p, us, rfl, hp, hs⟩ := k.isLst
  have e := hs.bls
  subst e
  exact ⟨p, bs, rfl, SqL.of (w.sub _ _ hp), q _ G H (Ex.refl G) w (.bl _)⟩
theorem rc_any {bs : List Bool} : RC (rAny K) [.list (bs.map .bool)] (.bool (bs.any id)) := fun F G H vs w a Q q => by
  obtain ⟨v, rfl, k⟩ := a.one
  obtain ⟨p, us, rfl, hp, hs⟩ := k.isLst
  have e := hs.bls
  subst e
  exact ⟨p, bs, rfl, SqL.of (w.sub _ _ hp), q _ G H (Ex.refl G) w (.bl _)⟩
theorem rc_sum {ns : List Int} : RC (rSum K) [.list (ns.map .int)] (.int ns.sum) := fun F G H vs w a Q q => by
  obtain ⟨v, rfl, k⟩ := a.one
  obtain ⟨p, us, rfl, hp, hs⟩ := k.isLst
  have e := hs.ints
  subst e
  exact ⟨p, ns, rfl, SqL.of (w.sub _ _ hp), q _ G H (Ex.refl G) w (.int _)⟩
theorem rc_min {ns : List Int} {m : Int} (hm : m ∈ ns) (hle : ∀ y ∈ ns, m ≤ y) : RC (rMin K) [.list (ns.map .int)] (.int m) := fun F G H vs w a Q q => by
  obtain ⟨v, rfl, k⟩ := a.one
  obtain ⟨p, us, rfl, hp, hs⟩ := k.isLst
  have e := hs.ints
  subst e
  refine ⟨p, ns, rfl, SqL.of (w.sub _ _ hp), List.length_pos_of_mem hm, fun m' h1 h2 => ?_⟩
  have e : m' = m := Int.le_antisymm (h2 m hm) (hle m' h1)
  subst e
  exact q _ G H (Ex.refl G) w (.int _)
theorem rc_max {ns : List Int} {m : Int} (hm : m ∈ ns) (hle : ∀ y ∈ ns, y ≤ m) : RC (rMax K) [.list (ns.map .int)] (.int m) := fun F G H vs w a Q q => by
  obtain ⟨v, rfl, k⟩ := a.one
  obtain ⟨p, us, rfl, hp, hs⟩ := k.isLst
  have e := hs.ints
  subst e
  refine ⟨p, ns, rfl, SqL.of (w.sub _ _ hp), List.length_pos_of_mem hm, fun m' h1 h2 => ?_⟩
  have e : m' = m := Int.le_antisymm (hle m' h1) (h2 m hm)
  subst e
  exact q _ G H (Ex.refl G) w (.int _)
def rTupOf (K : PySem.W.Frag) : List V → Hp → VK → Prop := fun xs H Q => ∃ p ys, xs = [.ref p] ∧ ((SqL K H p ys ∧ ∀ l, H l = none → Q (.ref l) (upd H l (.tup ys))) ∨ (SqT K H p ys ∧ Q (.ref p) H))
theorem call_tupOf {X : Cx} : CallR X (.type "tuple") (rTupOf X.K) := call_tuple_of
theorem tup_lst : RC (rTupOf K) [.list xs] (.tuple xs) := fun F G H vs w a Q q => by
  obtain ⟨v, rfl, k⟩ := a.one
  obtain ⟨p, us, rfl, hp, hs⟩ := k.isLst
  refine ⟨p, us, rfl, .inl ⟨SqL.of (w.sub _ _ hp), fun t ht => ?_⟩⟩
  obtain ⟨e, w2⟩ := w.new ht (.tup us)
  exact q _ _ _ e w2 (.tup upd_same (hs.mono e))
theorem tup_tup : RC (rTupOf K) [.tuple xs] (.tuple xs) := fun F G H vs w a Q q => by
  obtain ⟨v, rfl, k⟩ := a.one
  obtain ⟨p, us, rfl, hp, hs⟩ := k.isTup
  exact ⟨p, us, rfl, .inr ⟨SqT.of (w.sub _ _ hp), q _ G H (Ex.refl G) w k⟩⟩
def rLstOf (K : PySem.W.Frag) : List V → Hp → VK → Prop := fun xs H Q => ∃ p ys, xs = [.ref p] ∧ (SqL K H p ys ∨ SqT K H p ys) ∧ ∀ l, H l = none → Q (.ref l) (upd H l (.lst ys))
theorem call_lstOf {X : Cx} : CallR X (.type "list") (rLstOf X.K) := call_list_of
theorem lst_tup : RC (rLstOf K) [.tuple xs] (.list xs) := fun F G H vs w a Q q => by
  obtain ⟨v, rfl, k⟩ := a.one
  obtain ⟨p, us, rfl, hp, hs⟩ := k.isTup
  refine ⟨p, us, rfl, .inr (SqT.of (w.sub _ _ hp)), fun t ht => ?_⟩
  obtain ⟨e, w2⟩ := w.new ht (.lst us)
  exact q _ _ _ e w2 (.lst upd_same (hs.mono e))
theorem lst_lst : RC (rLstOf K) [.list xs] (.list xs) := fun F G H vs w a Q q => by
  obtain ⟨v, rfl, k⟩ := a.one
  obtain ⟨p, us, rfl, hp, hs⟩ := k.isLst
  refine ⟨p, us, rfl, .inl (SqL.of (w.sub _ _ hp)), fun t ht => ?_⟩
  obtain ⟨e, w2⟩ := w.new ht (.lst us)
  exact q _ _ _ e w2 (.lst upd_same (hs.mono e))
def rIntOf : List V → Hp → VK → Prop := fun xs H Q => (∃ i, xs = [.int i] ∧ Q (.int i) H) ∨ ∃ k, xs = [.bl k] ∧ Q (.int (if k then 1 else 0)) H
theorem call_intOf {X : Cx} : CallR X (.type "int") rIntOf := call_int1
theorem int_int : RC rIntOf [.int i] (.int i) := fun F G H vs w a Q q => by
  obtain ⟨v, rfl, k⟩ := a.one
  exact .inl ⟨i, by rw [k.isInt], q _ G H (Ex.refl G) w (.int _)⟩
def rAbs : List V → Hp → VK → Prop := fun xs H Q => ∃ i, xs = [.int i] ∧ Q (.int (if i < 0 then -i else i)) H
theorem call_abs' {X : Cx} : CallR X (.builtin "abs") rAbs := call_abs
theorem abs_int : RC rAbs [.int i] (.int (if i < 0 then -i else i)) := fun F G H vs w a Q q => by
  obtain ⟨v, rfl, k⟩ := a.one
  exact ⟨i, by rw [k.isInt], q _ G H (Ex.refl G) w (.int _)⟩
def rMin2 : List V → Hp → VK → Prop := fun xs H Q => ∃ i j, xs = [.int i, .int j] ∧ Q (.int (if j < i then j else i)) H
theorem call_min2' {X : Cx} (hc : X.calm = true) : CallR X (.builtin "min") rMin2 := call_min2 hc
theorem min_2 : RC rMin2 [.int i, .int j] (.int (if j < i then j else i)) := fun F G H vs w a Q q => by
  cases a with
  | cons a s =>
    obtain ⟨v, rfl, b⟩ := s.one
    exact ⟨i, j, by rw [a.isInt, b.isInt], q _ G H (Ex.refl G) w (.int _)⟩
end

/-! ### targets -/
def Chg (js : List Nat) (σ σ' : L2.St) : Prop := σ'.length = σ.length ∧ ∀ i, i ∉ js → σ'[i]? = σ[i]?
theorem Chg.set {σ : L2.St} {i : Nat} {ov : Option V} : Chg [i] σ (σ.set i ov) := ⟨List.length_set .., fun j hj => by rw [List.getElem?_set_ne]; intro e; exact hj (by simp [e])⟩
theorem Chg.trans {js ks : List Nat} {σ σ1 σ2 : L2.St} (a : Chg js σ σ1) (b : Chg ks σ1 σ2) : Chg (js ++ ks) σ σ2 :=
  ⟨b.1.trans a.1, fun i hi => (b.2 i fun h => hi (List.mem_append.mpr (.inr h))).trans (a.2 i fun h => hi (List.mem_append.mpr (.inl h)))⟩
theorem wipe_get (σ : L2.St) (i : Nat) : ∀ vs : List Nat, (wipe σ vs)[i]? = if i ∈ vs then σ[i]?.map (fun _ => none) else σ[i]?
  | [] => by simp [wipe]
  | v :: vs => by
    unfold wipe
    rw [List.getElem?_set, wipe_length, wipe_get σ i vs]
    by_cases e : v = i
    · subst e
      rw [if_pos rfl, if_pos (List.mem_cons_self)]
      by_cases h : v < σ.length
      · rw [if_pos h, List.getElem?_eq_getElem h]
        rfl
      · rw [if_neg h, List.getElem?_eq_none (Nat.le_of_not_lt h)]
        rfl
    · rw [if_neg e]
      have : (i ∈ v :: vs) ↔ i ∈ vs := by
        rw [List.mem_cons]
        constructor
        · rintro (h | h)
          · exact absurd h.symm e
          · exact h
        · exact .inr
      simp only [this]
theorem Chg.wipe {js vs : List Nat} {σ σ' : L2.St} (c : Chg js (wipe σ vs) σ') (h : ∀ j ∈ js, j ∈ vs) : L2.wipe σ' vs = L2.wipe σ vs := by
  apply List.ext_getElem?
  intro i
  rw [wipe_get, wipe_get]
  by_cases hi : i ∈ vs
  · rw [if_pos hi, if_pos hi]
    have hl : σ'.length = σ.length := c.1.trans (wipe_length _ _)
    by_cases hh : i < σ.length
    · rw [List.getElem?_eq_getElem hh, List.getElem?_eq_getElem (by omega)]
      rfl
    · rw [List.getElem?_eq_none (by omega), List.getElem?_eq_none (by omega)]
  · rw [if_neg hi, if_neg hi, c.2 i fun z => hi (h i z), wipe_get, if_neg hi]
def wipeE : List E → List Nat → List E
  | ρ, [] => ρ
  | ρ, v :: vs => (wipeE ρ vs).set v .un
theorem Sl.wipe {G : Hp} {σ : L2.St} {ρ : List E} (s : Sl G σ ρ) : ∀ vs : List Nat, Sl G (L2.wipe σ vs) (wipeE ρ vs)
  | [] => s
  | v :: vs => Sl.set (ov := Option.none) (x := .un) trivial v (s.wipe vs)
def EvG (g : TG) (ρ : List E) (d : PyData) (ρ' : List E) (js : List Nat) : Prop := ∀ (F : Own) (G H : Hp) (σ : L2.St) (v : V), Wd F G H → Sl G σ ρ → Da G v d → ∀ Q : L2.St → Hp → Prop,
  (∀ σ', Chg js σ σ' → Sl G σ' ρ' → Q σ' H) → g v σ H Q
def EvGs (g : TGs) (ρ : List E) (ds : List PyData) (ρ' : List E) (js : List Nat) : Prop := ∀ (F : Own) (G H : Hp) (σ : L2.St) (vs : List V), Wd F G H → Sl G σ ρ → DaS G vs ds → ∀ Q : L2.St → Hp → Prop,
  (∀ σ', Chg js σ σ' → Sl G σ' ρ' → Q σ' H) → g vs σ H Q
section
variable {ρ ρ1 ρ2 : List E} {d : PyData} {ds : List PyData} {js ks : List Nat} {K : PySem.W.Frag} {g : TG} {gs : TGs}
theorem eg_name {i : Nat} : EvG (gName i) ρ d (ρ.set i (.d d)) [i] := fun F G H σ v w s k Q q => q _ .set (s.set (.of k) i)
theorem egs_nil : EvGs gNil ρ [] ρ [] := fun F G H σ vs w s k Q q => by
  cases k
  exact ⟨rfl, q σ ⟨rfl, fun _ _ => rfl⟩ s⟩
theorem egs_cons (h : EvG g ρ d ρ1 js) (h2 : EvGs gs ρ1 ds ρ2 ks) : EvGs (gCons g gs) ρ (d :: ds) ρ2 (js ++ ks) := fun F G H σ vs w s k Q q => by
  cases k with
  | cons a b => exact ⟨_, _, rfl, h F G H σ _ w s a _ fun σ1 c1 s1 => h2 F G H σ1 _ w s1 b Q fun σ2 c2 s2 => q σ2 (c1.trans c2) s2⟩
theorem eg_tup {n : Nat} (h : EvGs gs ρ ds ρ1 js) (hn : ds.length = n) : EvG (gTup K n gs) ρ (.tuple ds) ρ1 js := fun F G H σ v w s k Q q => by
  obtain ⟨a, xs, rfl, ha, hs⟩ := k.isTup
  exact ⟨a, xs, rfl, SqT.of (w.sub _ _ ha), hs.len.trans hn, h F G H σ xs w s hs Q q⟩
end

/-! ### what is walked -/
structure WalkD (J : It) (G0 : Hp) (ds : List PyData) : Prop where
  goes : ∀ i H, Ex G0 H → i < ds.length → J.go i H
  stops : ∀ H, Ex G0 H → J.stop ds.length H
  yields : ∀ i H x H' F G1, Ex G0 G1 → Wd F G1 H → i < ds.length → J.yld i H x H' → ∃ G2 d, ds[i]? = some d ∧ Ex G1 G2 ∧ Wd F G2 H' ∧ Da G2 x d
def EvI (wi : TI) (ρ : List E) (O : Own) (ds : List PyData) : Prop := ∀ (F : Own) (G H : Hp) (σ : L2.St), Wd (O ++ F) G H → Sl G σ ρ → ∀ R : It → Hp → Prop,
  (∀ J G' H', Ex G G' → Wd (O ++ F) G' H' → WalkD J G' ds → R J H') → wi σ H R
/-- .. where what is owned may change on the way -/
def EvIX (wi : TI) (ρ : List E) (O : Own) (Z : List PyData → Own → Prop) : Prop := ∀ (F : Own) (G H : Hp) (σ : L2.St), Wd (O ++ F) G H → Sl G σ ρ → ∀ R : It → Hp → Prop,
  (∀ J G' H' ds O', Z ds O' → Ex G G' → Wd (O' ++ F) G' H' → WalkD J G' ds → R J H') → wi σ H R
section
variable {K : PySem.W.Frag} {d : PyData} {ds es : List PyData} {ρ : List E} {O : Own} {te ta tb tl : TE}
theorem EvI.x {wi : TI} {Z : List PyData → Own → Prop} (h : EvI wi ρ O ds) (k : Z ds O) : EvIX wi ρ O Z := fun F G H σ w s R q => h F G H σ w s R fun J G' H' e w' W => q J G' H' ds O k e w' W
theorem wd_list {a : Addr} {xs : List V} {G : Hp} (h : G a = some (.lst xs)) (s : DaS G xs ds) : WalkD (Itl K a) G ds := by
  have W := walk_list (K := K) (a := a) (xs := xs)
  have e := s.len
  refine ⟨fun i H x hi => W.goes i H (by omega) (SqL.of (x _ _ h)), fun H x => by rw [← e]; exact W.stops H (SqL.of (x _ _ h)), fun i H x H' F G1 x1 w hi y => ?_⟩
  obtain ⟨rfl, hx⟩ := W.yields i H x H' (by omega) (SqL.of (w.sub _ _ (x1 _ _ h))) y
  obtain ⟨d, hd, k⟩ := s.getV hx
  exact ⟨G1, d, hd, Ex.refl _, w, k.mono x1⟩
theorem wd_tup {a : Addr} {xs : List V} {G : Hp} (h : G a = some (.tup xs)) (s : DaS G xs ds) : WalkD (Itt K a) G ds := by
  have W := walk_tup (K := K) (a := a) (xs := xs)
  have e := s.len
  refine ⟨fun i H x hi => W.goes i H (by omega) (SqT.of (x _ _ h)), fun H x => by rw [← e]; exact W.stops H (SqT.of (x _ _ h)), fun i H x H' F G1 x1 w hi y => ?_⟩
  obtain ⟨rfl, hx⟩ := W.yields i H x H' (by omega) (SqT.of (w.sub _ _ (x1 _ _ h))) y
  obtain ⟨d, hd, k⟩ := s.getV hx
  exact ⟨G1, d, hd, Ex.refl _, w, k.mono x1⟩
theorem ei_list (h : EvD tl ρ O (.list ds)) : EvI (iList K tl) ρ O ds := fun F G H σ w s R q => h F G H σ w s _ fun v G1 H1 e1 w1 k1 => by
  obtain ⟨a, xs, rfl, ha, hs⟩ := k1.isLst
  exact ⟨a, rfl, ⟨xs, SqL.of (w1.sub _ _ ha)⟩, q _ G1 H1 e1 w1 (wd_list ha hs)⟩
theorem ei_tup (h : EvD tl ρ O (.tuple ds)) : EvI (iTup K tl) ρ O ds := fun F G H σ w s R q => h F G H σ w s _ fun v G1 H1 e1 w1 k1 => by
  obtain ⟨a, xs, rfl, ha, hs⟩ := k1.isTup
  exact ⟨a, rfl, ⟨xs, SqT.of (w1.sub _ _ ha)⟩, q _ G1 H1 e1 w1 (wd_tup ha hs)⟩
def rngD (lo : Int) (n : Nat) : List PyData := (List.range n).map fun i => .int (lo + (i : Nat))
theorem rngD_len (lo : Int) (n : Nat) : (rngD lo n).length = n := by unfold rngD; rw [List.length_map, List.length_range]
theorem rngD_get {lo : Int} {n i : Nat} {d : PyData} (h : (rngD lo n)[i]? = some d) : i < n ∧ d = .int (lo + (i : Nat)) := by
  unfold rngD at h
  rw [List.getElem?_map] at h
  by_cases hi : i < n
  · rw [List.getElem?_range hi] at h
    exact ⟨hi, (Option.some.inj h).symm⟩
  · rw [List.getElem?_eq_none (by rw [List.length_range]; omega)] at h
    cases h
theorem wd_range {G : Hp} {lo : Int} {n : Nat} : WalkD (Itr lo n) G (rngD lo n) := by
  refine ⟨fun i H x hi => by rw [rngD_len] at hi; exact hi, fun H x => by rw [rngD_len]; exact Nat.le_refl _, fun i H x H' F G1 x1 w hi y => ?_⟩
  obtain ⟨rfl, rfl⟩ := y
  rw [rngD_len] at hi
  exact ⟨G1, .int (lo + (i : Nat)), by unfold rngD; rw [List.getElem?_map, List.getElem?_range hi]; rfl, Ex.refl _, w, .int _⟩
theorem ei_rng1 {ta : TA} {n : Int} (h : EvA ta ρ O [.int n]) (hn : n ≤ 1000000000000 ∧ -1000000000000 ≤ n) : EvI (iRng1 ta) ρ O (rngD 0 n.toNat) := fun F G H σ w s R q => h F G H σ w s _ fun v G1 H1 e1 w1 k1 => by
  obtain ⟨v, rfl, k⟩ := k1.one
  exact ⟨n, by rw [k.isInt], by omega, by omega, q _ G1 H1 e1 w1 wd_range⟩
theorem ei_rng2 {ta : TA} {m n : Int} (h : EvA ta ρ O [.int m, .int n]) (hm : m ≤ 1000000000000 ∧ -1000000000000 ≤ m) (hn : n ≤ 1000000000000 ∧ -1000000000000 ≤ n) : EvI (iRng2 ta) ρ O (rngD m (n - m).toNat) := fun F G H σ w s R q => h F G H σ w s _ fun v G1 H1 e1 w1 k1 => by
  cases k1 with
  | cons a k1 =>
    obtain ⟨v, rfl, k⟩ := k1.one
    exact ⟨m, n, by rw [a.isInt, k.isInt], ⟨by omega, by omega, by omega, by omega⟩, q _ G1 H1 e1 w1 wd_range⟩
theorem ex_rng1 {ta : TA} {Z : List PyData → Own → Prop} (h : EvX ta ρ O (fun es O1 => ∃ n : Int, es = [.d (.int n)] ∧ (n ≤ 1000000000000 ∧ -1000000000000 ≤ n) ∧ Z (rngD 0 n.toNat) O1)) : EvIX (iRng1 ta) ρ O Z := fun F G H σ w s R q => h F G H σ w s _ fun v G1 H1 es O1 z e1 w1 k1 => by
  obtain ⟨n, rfl, hn, z⟩ := z
  have k2 : DaS G1 v [.int n] := ErS.dats (ds := [.int n]) k1
  obtain ⟨v, rfl, k⟩ := k2.one
  exact ⟨n, by rw [k.isInt], by omega, by omega, q _ G1 H1 _ O1 z e1 w1 wd_range⟩
theorem ex_list {Z : List PyData → Own → Prop} (h : Ev tl ρ O (fun r O1 => ∃ ds, r = .d (.list ds) ∧ Z ds O1)) : EvIX (iList K tl) ρ O Z := fun F G H σ w s R q => h F G H σ w s _ fun v G1 H1 r O1 z e1 w1 k1 => by
  obtain ⟨ds, rfl, z⟩ := z
  obtain ⟨a, xs, rfl, ha, hs⟩ := k1.dat.isLst
  exact ⟨a, rfl, ⟨xs, SqL.of (w1.sub _ _ ha)⟩, q _ G1 H1 ds O1 z e1 w1 (wd_list ha hs)⟩
theorem ex_tup {Z : List PyData → Own → Prop} (h : Ev tl ρ O (fun r O1 => ∃ ds, r = .d (.tuple ds) ∧ Z ds O1)) : EvIX (iTup K tl) ρ O Z := fun F G H σ w s R q => h F G H σ w s _ fun v G1 H1 r O1 z e1 w1 k1 => by
  obtain ⟨ds, rfl, z⟩ := z
  obtain ⟨a, xs, rfl, ha, hs⟩ := k1.dat.isTup
  exact ⟨a, rfl, ⟨xs, SqT.of (w1.sub _ _ ha)⟩, q _ G1 H1 ds O1 z e1 w1 (wd_tup ha hs)⟩
/-- pairs laid anew at each turn -/
theorem wd_pair {J : It} {n : Nat} {G : Hp} {Gd : Hp → Prop} {f g : Nat → Option V} {ds : List PyData} (W : Walk J n Gd (YPair f g)) (hn : n = ds.length) (hG : ∀ H, Ex G H → Gd H)
    (hd : ∀ i x y, f i = some x → g i = some y → i < n → ∃ a b, ds[i]? = some (.tuple [a, b]) ∧ Da G x a ∧ Da G y b) : WalkD J G ds := by
  subst hn
  refine ⟨fun i H x hi => W.goes i H hi (hG H x), fun H x => W.stops H (hG H x), fun i H x H' F G1 x1 w hi yy => ?_⟩
  obtain ⟨T, x, y, rfl, hT, rfl, hx, hy⟩ := W.yields i H x H' hi (hG H (x1.trans w.sub)) yy
  obtain ⟨a, b, e, ha, hb⟩ := hd i x y hx hy hi
  obtain ⟨e2, w2⟩ := w.new hT (.tup [x, y])
  exact ⟨_, _, e, e2, w2, .tup upd_same (.cons ((ha.mono x1).mono e2) (.cons ((hb.mono x1).mono e2) .nil))⟩
def enumD (ds : List PyData) : List PyData := ds.mapIdx fun i d => .tuple [.int (i : Nat), d]
theorem enumD_len (ds : List PyData) : (enumD ds).length = ds.length := by unfold enumD; rw [List.length_mapIdx]
theorem enumD_get (ds : List PyData) (i : Nat) : (enumD ds)[i]? = ds[i]?.map fun d => .tuple [.int (i : Nat), d] := by unfold enumD; rw [List.getElem?_mapIdx]
theorem ei_enum {ta : TA} (h : EvA ta ρ O [.list ds]) : EvI (iEnum K ta) ρ O (enumD ds) := fun F G H σ w s R q => h F G H σ w s _ fun v G1 H1 e1 w1 k1 => by
  obtain ⟨v, rfl, k⟩ := k1.one
  obtain ⟨a, xs, rfl, ha, hs⟩ := k.isLst
  refine ⟨a, xs, rfl, SqL.of (w1.sub _ _ ha), q _ G1 H1 e1 w1 (wd_pair walk_enum (by rw [enumD_len, hs.len]) (fun H x => SqL.of (x _ _ ha)) fun i x y hx hy hi => ?_)⟩
  cases hx
  obtain ⟨d, h1, h2⟩ := hs.getV hy
  exact ⟨_, d, by rw [enumD_get, h1]; rfl, .int _, h2⟩
def zipD (ds es : List PyData) : List PyData := List.zipWith (fun a b => .tuple [a, b]) ds es
theorem ei_zip {ta : TA} (h : EvA ta ρ O [.list ds, .list es]) : EvI (iZip K ta) ρ O (zipD ds es) := fun F G H σ w s R q => h F G H σ w s _ fun v G1 H1 e1 w1 k1 => by
  cases k1 with
  | cons k0 k1 =>
  obtain ⟨v, rfl, k⟩ := k1.one
  obtain ⟨a, xs, rfl, ha, hs⟩ := k0.isLst
  obtain ⟨b, ys, rfl, hb, ht⟩ := k.isLst
  refine ⟨a, b, xs, ys, rfl, SqL.of (w1.sub _ _ ha), SqL.of (w1.sub _ _ hb), q _ G1 H1 e1 w1 (wd_pair (walk_zip rfl) (by unfold zipD; rw [List.length_zipWith, hs.len, ht.len]) (fun H x => ⟨SqL.of (x _ _ ha), SqL.of (x _ _ hb)⟩) fun i x y hx hy hi => ?_)⟩
  obtain ⟨d, h1, h2⟩ := hs.getV hx
  obtain ⟨e, h3, h4⟩ := ht.getV hy
  exact ⟨d, e, by unfold zipD; rw [List.getElem?_zipWith, h1, h3], h2, h4⟩
/-! ### list comprehensions -/
/-- the general form: I by the turn, what is gathered, what is owned -/
theorem ev_lcXX {wi : TI} {g : TG} {tt : TT} {vs : List Nat} {Z : E → Own → Prop} (hi : EvIX wi ρ O (fun ds O0 => ds.length ≤ 100000 ∧ ∃ I : Nat → List PyData → Own → Prop, I 0 [] O0 ∧
    (∀ (i : Nat) d acc O1, ds[i]? = some d → I i acc O1 → ∃ ρ2 js b, EvG g (wipeE ρ vs) d ρ2 js ∧ (∀ j ∈ js, j ∈ vs) ∧ EvT tt ρ2 O1 b ∧ (b = true → Ev te ρ2 O1 (fun r O2 => ∃ y, r = .d y ∧ I (i + 1) (acc ++ [y]) O2)) ∧ (b = false → I (i + 1) acc O1)) ∧
    (∀ acc O1, I ds.length acc O1 → Z (.d (.list acc)) O1))) : Ev (tLc wi g tt te vs) ρ O Z := fun F G H σ w s Q q => hi F G H σ w s _ fun J G1 H1 ds O zz e1 w1 WK D hD => by
  obtain ⟨hl, I, h0, hs, hd⟩ := zz
  have s1 := s.mono e1
  let P : Nat → Hp → Prop := fun i H' => i ≤ ds.length ∧ ∃ G' acc O1, Ex G1 G' ∧ acc.length ≤ i ∧ Wd ((D, .lst (acc.map E.d)) :: (O1 ++ F)) G' H' ∧ I i acc O1
  refine ⟨fun i m H' => m = ds.length - i ∧ P i H', ⟨ds.length, by simp, Nat.zero_le _, G1, [], O, Ex.refl _, Nat.le_refl _, w1.newOwn hD (show Or G1 (.lst []) (.lst []) from .nil), h0⟩, ?_⟩
  rintro i m H' ⟨rfl, hle, G', acc, O1, e2, hacc, w2, hI⟩
  by_cases hlt : i < ds.length
  · refine .inr ⟨WK.goes i H' (e2.trans w2.sub) hlt, P (i + 1), fun H'' p => ⟨_, by omega, rfl, p⟩, fun x H'' y => ?_⟩
    obtain ⟨G3, d, hdd, e3, w3, kd⟩ := WK.yields i H' x H'' _ G' e2 w2 hlt y
    obtain ⟨ρ2, js, b, hg, hjs, ht, hy, hn⟩ := hs i d acc O1 hdd hI
    have s3 := ((s1.mono e2).mono e3).wipe vs
    refine hg _ G3 H'' _ x w3 s3 kd _ fun σ2 c s4 => ⟨c.wipe hjs, ?_⟩
    have w3' : Wd (O1 ++ (F ++ [(D, .lst (acc.map E.d))])) G3 H'' := by
      refine w3.perm ?_
      rw [← List.append_assoc]
      exact (List.perm_append_singleton _ _).symm
    refine ht _ G3 H'' σ2 w3' s4 _ fun G4 H4 e4 w4 => ?_
    cases b with
    | true =>
      refine iteT (hy rfl _ G4 H4 σ2 w4 (s4.mono e4) _ fun v G5 H5 r O2 z e5 w5 k5 => ?_)
      obtain ⟨y, rfl, hI2⟩ := z
      have w6 : Wd ((D, .lst (acc.map E.d)) :: (O2 ++ F)) G5 H5 := by
        refine w5.perm ?_
        rw [← List.append_assoc]
        exact List.perm_append_singleton _ _
      obtain ⟨o, h1, h2, _⟩ := w6.own _ List.mem_cons_self
      obtain ⟨xs, rfl, h3⟩ := h2.lstE
      have hlen : xs.length ≤ i := by rw [h3.len, List.length_map]; exact hacc
      refine ⟨xs, h1, sz_lt (by omega), by omega, G5, acc ++ [y], O2, (((e2.trans e3).trans e4).trans e5), by rw [List.length_append]; simp; omega, ?_, hI2⟩
      exact w6.set (i := 0) rfl (show Or G5 (.lst (xs ++ [v])) (.lst ((acc ++ [y]).map E.d)) by rw [List.map_append]; exact h3.append (.cons k5 .nil))
    | false =>
      refine iteF ⟨by omega, G4, acc, O1, (e2.trans e3).trans e4, by omega, ?_, hn rfl⟩
      refine w4.perm ?_
      rw [← List.append_assoc]
      exact List.perm_append_singleton _ _
  · have e : i = ds.length := by omega
    subst e
    refine .inl ⟨WK.stops H' (e2.trans w2.sub), ?_⟩
    obtain ⟨xs, e5, w5, k5⟩ := w2.freeze
    exact q _ _ _ _ O1 (hd acc O1 hI) (e1.trans (e2.trans e5)) w5 (.of k5)
theorem ev_lcX {wi : TI} {g : TG} {tt : TT} {vs : List Nat} {Z : E → Own → Prop} (hi : EvI wi ρ O ds) (hl : ds.length ≤ 100000) (I : Nat → List PyData → Own → Prop) (h0 : I 0 [] O)
    (hs : ∀ (i : Nat) d acc O1, ds[i]? = some d → I i acc O1 → ∃ ρ2 js b, EvG g (wipeE ρ vs) d ρ2 js ∧ (∀ j ∈ js, j ∈ vs) ∧ EvT tt ρ2 O1 b ∧ (b = true → Ev te ρ2 O1 (fun r O2 => ∃ y, r = .d y ∧ I (i + 1) (acc ++ [y]) O2)) ∧ (b = false → I (i + 1) acc O1))
    (hd : ∀ acc O1, I ds.length acc O1 → Z (.d (.list acc)) O1) : Ev (tLc wi g tt te vs) ρ O Z := ev_lcXX (hi.x ⟨hl, I, h0, hs, hd⟩)
/-- nothing changes -/
theorem ev_lc {wi : TI} {g : TG} {tt : TT} {vs : List Nat} (hi : EvI wi ρ O ds) (hl : ds.length ≤ 100000) (p : PyData → Bool) (f : PyData → PyData)
    (hs : ∀ (i : Nat) d, ds[i]? = some d → ∃ ρ2 js, EvG g (wipeE ρ vs) d ρ2 js ∧ (∀ j ∈ js, j ∈ vs) ∧ EvT tt ρ2 O (p d) ∧ (p d = true → EvD te ρ2 O (f d))) : EvD (tLc wi g tt te vs) ρ O (.list ((ds.filter p).map f)) := by
  refine Ev.det (ev_lcX hi hl (fun i acc O1 => O1 = O ∧ acc = ((ds.take i).filter p).map f) ⟨rfl, rfl⟩ ?_ ?_)
  · rintro i d acc O1 hd ⟨rfl, rfl⟩
    obtain ⟨ρ2, js, hg, hj, ht, he⟩ := hs i d hd
    have et : ds.take (i + 1) = ds.take i ++ [d] := by rw [List.take_add_one, hd]; rfl
    refine ⟨ρ2, js, p d, hg, hj, ht, fun hp => (he hp).to ⟨f d, rfl, rfl, ?_⟩, fun hp => ⟨rfl, ?_⟩⟩
    · rw [et, List.filter_append, List.map_append, List.filter_cons, if_pos hp]
      rfl
    · rw [et, List.filter_append, List.map_append, List.filter_cons, if_neg (by rw [hp]; decide)]
      exact (List.append_nil _).symm
  · rintro acc O1 ⟨rfl, rfl⟩
    rw [List.take_length]
    exact ⟨rfl, rfl⟩
/-- .. and no test -/
theorem ev_lcM {wi : TI} {g : TG} {vs : List Nat} (hi : EvI wi ρ O ds) (hl : ds.length ≤ 100000) (f : PyData → PyData)
    (hs : ∀ (i : Nat) d, ds[i]? = some d → ∃ ρ2 js, EvG g (wipeE ρ vs) d ρ2 js ∧ (∀ j ∈ js, j ∈ vs) ∧ EvD te ρ2 O (f d)) : EvD (tLc wi g tYes te vs) ρ O (.list (ds.map f)) := by
  have h := ev_lc (tt := tYes) hi hl (fun _ => true) f fun i d hd => by
    obtain ⟨ρ2, js, hg, hj, he⟩ := hs i d hd
    exact ⟨ρ2, js, hg, hj, et_yes, fun _ => he⟩
  rwa [List.filter_eq_self.mpr (fun _ _ => rfl)] at h
end
end Ly
namespace Ly
open PySem L2 Evl
/-! ### statements -/
inductive Out where
  | nx (ρ : List E) (O : Own)
  | rt (r : E) (O : Own)
  | bk (ρ : List E) (O : Own)
  | ct (ρ : List E) (O : Own)
def Fin (F : Own) (G : Hp) (D : Ends) : Out → Prop
  | .nx ρ O => ∀ G' H' σ', Ex G G' → Wd (O ++ F) G' H' → Sl G' σ' ρ → D.nx σ' H'
  | .rt r O => ∀ v G' H', Ex G G' → Wd (O ++ F) G' H' → Er G' (some v) r → D.rt v H'
  | .bk ρ O => ∀ G' H' σ', Ex G G' → Wd (O ++ F) G' H' → Sl G' σ' ρ → D.bk σ' H'
  | .ct ρ O => ∀ G' H' σ', Ex G G' → Wd (O ++ F) G' H' → Sl G' σ' ρ → D.ct σ' H'
theorem Fin.mono {F : Own} {G G' : Hp} {D : Ends} (e : Ex G G') {o : Out} (h : Fin F G D o) : Fin F G' D o := by
  cases o with
  | nx ρ O => exact fun G2 H σ e2 => h G2 H σ (e.trans e2)
  | rt r O => exact fun v G2 H e2 => h v G2 H (e.trans e2)
  | bk ρ O => exact fun G2 H σ e2 => h G2 H σ (e.trans e2)
  | ct ρ O => exact fun G2 H σ e2 => h G2 H σ (e.trans e2)
def SX (ts : TS) (ρ : List E) (O : Own) (P : Out → Prop) : Prop := ∀ (F : Own) (G H : Hp) (σ : L2.St) (D : Ends), Wd (O ++ F) G H → Sl G σ ρ → (∀ o, P o → Fin F G D o) → ts D σ H
/-- what is wanted of a block's end, where u follows -/
def Seq (u : TS) (P : Out → Prop) : Out → Prop
  | .nx ρ O => SX u ρ O P
  | .rt r O => P (.rt r O)
  | .bk ρ O => P (.bk ρ O)
  | .ct ρ O => P (.ct ρ O)
/-- what is wanted of a loop's turn: I of the next one, else what follows the loop -/
def Turn (I : List E → Own → Prop) (P : Out → Prop) : Out → Prop
  | .nx ρ O => I ρ O
  | .rt r O => P (.rt r O)
  | .bk ρ O => P (.nx ρ O)
  | .ct ρ O => I ρ O
/-- what is wanted of a def's body -/
def Ret (Z : E → Own → Prop) : Out → Prop
  | .nx _ O => Z (.d .none) O
  | .rt r O => Z r O
  | .bk _ _ => False
  | .ct _ _ => False
section
variable {K : PySem.W.Frag} {d : PyData} {ds es : List PyData} {ρ ρ' : List E} {O O' : Own} {te ta tb tl : TE} {t u v : TS} {P Q : Out → Prop} {tt : TT} {b : Bool} {g : TG} {js : List Nat}
theorem SX.weak (h : SX t ρ O P) (k : ∀ o, P o → Q o) : SX t ρ O Q := fun F G H σ D w s q => h F G H σ D w s fun o p => q o (k o p)
theorem sx_seq (h : SX t ρ O (Seq u P)) : SX (tSeq t u) ρ O P := fun F G H σ D w s q => by
  refine h F G H σ { D with nx := u D } w s fun o z => ?_
  cases o with
  | nx ρ' O' => exact fun G' H' σ' e w' s' => z F G' H' σ' D w' s' fun o p => (q o p).mono e
  | rt r O' => exact q _ z
  | bk ρ' O' => exact q _ z
  | ct ρ' O' => exact q _ z
theorem sx_asg {i : Nat} (h : Ev te ρ O (fun r O' => P (.nx (ρ.set i r) O'))) : SX (tAsg te (gName i)) ρ O P := fun F G H σ D w s q =>
  h F G H σ w s _ fun v G1 H1 r O1 z e1 w1 k1 => q _ z G1 H1 _ e1 w1 (Sl.set k1 i (s.mono e1))
theorem sx_asgD {i : Nat} (h : EvD te ρ O d) (k : P (.nx (ρ.set i (.d d)) O)) : SX (tAsg te (gName i)) ρ O P := sx_asg (h.to k)
theorem sx_asgG (h : EvD te ρ O d) (hg : EvG g ρ d ρ' js) (k : P (.nx ρ' O)) : SX (tAsg te g) ρ O P := fun F G H σ D w s q =>
  h F G H σ w s _ fun v G1 H1 e1 w1 k1 => hg _ G1 H1 σ v w1 (s.mono e1) k1 _ fun σ' _ s' => q _ k G1 H1 σ' e1 w1 s'
theorem sx_asgGX (h : Ev te ρ O (fun r O1 => ∃ d ρ' js, r = .d d ∧ EvG g ρ d ρ' js ∧ P (.nx ρ' O1))) : SX (tAsg te g) ρ O P := fun F G H σ D w s q =>
  h F G H σ w s _ fun v G1 H1 r O1 z e1 w1 k1 => by
    obtain ⟨d, ρ', js, rfl, hg, k⟩ := z
    exact hg _ G1 H1 σ v w1 (s.mono e1) k1.dat _ fun σ' _ s' => q _ k G1 H1 σ' e1 w1 s'
theorem ErS.two {G : Hp} {vs : List V} {a b : E} (h : ErS G vs [a, b]) : ∃ x y, vs = [x, y] ∧ Er G (some x) a ∧ Er G (some y) b := by
  cases h with
  | cons h1 h =>
    cases h with
    | cons h2 h =>
      cases h
      exact ⟨_, _, rfl, h1, h2⟩
theorem ErS.three {G : Hp} {vs : List V} {a b c : E} (h : ErS G vs [a, b, c]) : ∃ x y z, vs = [x, y, z] ∧ Er G (some x) a ∧ Er G (some y) b ∧ Er G (some z) c := by
  cases h with
  | cons h1 h =>
    obtain ⟨x, y, rfl, h2, h3⟩ := ErS.two h
    exact ⟨_, _, _, rfl, h1, h2, h3⟩
theorem sx_par {i j : Nat} {ta : TA} (h : EvX ta ρ O (fun es O' => ∃ a b, es = [a, b] ∧ P (.nx ((ρ.set i a).set j b) O'))) : SX (tPar i j ta) ρ O P := fun F G H σ D w s q =>
  h F G H σ w s _ fun vs G1 H1 es O1 z e1 w1 k1 => by
    obtain ⟨a, b, rfl, z⟩ := z
    obtain ⟨x, y, rfl, h1, h2⟩ := ErS.two k1
    exact ⟨x, y, rfl, q _ z G1 H1 _ e1 w1 (Sl.set h2 j (Sl.set h1 i (s.mono e1)))⟩
theorem sx_par3 {i j l : Nat} {ta : TA} (h : EvX ta ρ O (fun es O' => ∃ a b c, es = [a, b, c] ∧ P (.nx (((ρ.set i a).set j b).set l c) O'))) : SX (tPar3 i j l ta) ρ O P := fun F G H σ D w s q =>
  h F G H σ w s _ fun vs G1 H1 es O1 z e1 w1 k1 => by
    obtain ⟨a, b, c, rfl, z⟩ := z
    obtain ⟨x, y, u, rfl, h1, h2, h3⟩ := ErS.three k1
    exact ⟨x, y, u, rfl, q _ z G1 H1 _ e1 w1 (Sl.set h3 l (Sl.set h2 j (Sl.set h1 i (s.mono e1))))⟩
theorem sx_if (h : EvT tt ρ O b) (h1 : b = true → SX t ρ O P) (h2 : b = false → SX u ρ O P) : SX (tIfS tt t u) ρ O P := fun F G H σ D w s q =>
  h F G H σ w s _ fun G1 H1 e1 w1 => by
    cases b with
    | true => exact iteT (h1 rfl F G1 H1 σ D w1 (s.mono e1) fun o p => (q o p).mono e1)
    | false => exact iteF (h2 rfl F G1 H1 σ D w1 (s.mono e1) fun o p => (q o p).mono e1)
/-- a test that may change what is owned -/
theorem sx_ifX (h : EvTX tt ρ O (fun b O1 => if b = true then SX t ρ O1 P else SX u ρ O1 P)) : SX (tIfS tt t u) ρ O P := fun F G H σ D w s q =>
  h F G H σ w s _ fun G1 H1 b O1 z e1 w1 => by
    cases b with
    | true => exact iteT ((show SX t ρ O1 P by simpa using z) F G1 H1 σ D w1 (s.mono e1) fun o p => (q o p).mono e1)
    | false => exact iteF ((show SX u ρ O1 P by simpa using z) F G1 H1 σ D w1 (s.mono e1) fun o p => (q o p).mono e1)
theorem sx_next (k : P (.nx ρ O)) : SX tNext ρ O P := fun F G H σ D w s q => q _ k G H σ (Ex.refl G) w s
theorem sx_brk (k : P (.bk ρ O)) : SX tBreak ρ O P := fun F G H σ D w s q => q _ k G H σ (Ex.refl G) w s
theorem sx_cont (k : P (.ct ρ O)) : SX tCont ρ O P := fun F G H σ D w s q => q _ k G H σ (Ex.refl G) w s
theorem sx_ret (h : Ev te ρ O (fun r O' => P (.rt r O'))) : SX (tRet te) ρ O P := fun F G H σ D w s q =>
  h F G H σ w s _ fun v G1 H1 r O1 z e1 w1 k1 => q _ z v G1 H1 e1 w1 k1
theorem sx_retD (h : EvD te ρ O d) (k : P (.rt (.d d) O)) : SX (tRet te) ρ O P := sx_ret (h.to k)
theorem sx_retN (k : P (.rt (.d .none) O)) : SX tRetN ρ O P := fun F G H σ D w s q => q _ k .non G H (Ex.refl G) w (.of .non)
theorem sx_drop (h : Ev te ρ O (fun _ O' => P (.nx ρ O'))) : SX (tDrop te) ρ O P := fun F G H σ D w s q =>
  h F G H σ w s _ fun v G1 H1 r O1 z e1 w1 k1 => q _ z G1 H1 σ e1 w1 (s.mono e1)
theorem sx_dropD (h : EvD te ρ O d) (k : P (.nx ρ O)) : SX (tDrop te) ρ O P := sx_drop (h.to k)
/-- a list of its own is frozen, its slot holds its datum -/
theorem Sl.slot {G : Hp} {σ : L2.St} {i : Nat} {x y : E} (s : Sl G σ ρ) (h : ρ[i]? = some x) (k : ∀ ov, Er G ov x → Er G ov y) : Sl G σ (ρ.set i y) := by
  induction s generalizing i with
  | nil => exact .nil
  | cons e s ih =>
    cases i with
    | zero =>
      simp at h
      subst h
      exact .cons (k _ e) s
    | succ i => exact .cons e (ih (by simpa using h))
theorem sx_freeze {i : Nat} {a : Addr} (hr : ρ[i]? = some (.r a)) (h : SX t (ρ.set i (.d (.list ds))) O P) : SX t ρ ((a, .lst (ds.map E.d)) :: O) P := fun F G H σ D w s q => by
  obtain ⟨xs, e, w2, k⟩ := Wd.freeze (O := O ++ F) w
  refine h F _ H σ D w2 ((s.mono e).slot hr fun ov z => ?_) fun o p => (q o p).mono e
  exact ⟨.ref a, z, k⟩
theorem sx_perm (h : SX t ρ O' P) (p : O.Perm O') : SX t ρ O P := fun F G H σ D w s q => h F G H σ D (w.perm (p.append_right F)) s q
theorem Ev.perm {Z : E → Own → Prop} (h : Ev te ρ O' Z) (p : O.Perm O') : Ev te ρ O Z := fun F G H σ w s q => h F G H σ (w.perm (p.append_right F)) s q
/-- append to a list of its own -/
theorem sx_app {k : Nat} {l : Addr} {xs : List E} (ho : EvR ta ρ l) (hk : O[k]? = some (l, .lst xs)) (h : EvD te ρ O d) (hz : xs.length < 100000) (hP : P (.nx ρ (O.set k (l, .lst (xs ++ [.d d]))))) :
    SX (tDrop (tBM K "list" rAppend ta (tCons te tNil))) ρ O P := fun F G H σ D w s q => ho G H σ s _ <| by
  have hk' : (O ++ F)[k]? = some (l, .lst xs) := by rw [List.getElem?_append_left (List.getElem?_eq_some_iff.mp hk).1]; exact hk
  obtain ⟨o, h1, h2, _⟩ := w.at hk'
  obtain ⟨us, rfl, h3⟩ := h2.lstE
  refine ⟨Or.inl ⟨rfl, _, SqL.of h1⟩, h F G H σ w s _ fun v G1 H1 e1 w1 k1 => ?_⟩
  obtain ⟨o, h1, h2, _⟩ := w1.at hk'
  obtain ⟨us, rfl, h3⟩ := h2.lstE
  refine ⟨l, us, v, rfl, rfl, h1, sz_lt (by rw [h3.len]; exact hz), q _ hP G1 _ σ e1 ?_ (s.mono e1)⟩
  have w2 := w1.set hk' (o' := .lst (us ++ [v])) (oo' := .lst (xs ++ [.d d])) (h3.append (.cons (.of k1) .nil))
  rwa [List.set_append_left _ _ (List.getElem?_eq_some_iff.mp hk).1] at w2
theorem ErS.set {G : Hp} {v : V} {x : E} (h : Er G (some v) x) : ∀ {vs : List V} {es : List E} (i : Nat), ErS G vs es → ErS G (vs.set i v) (es.set i x)
  | _, _, _, .nil => .nil
  | _, _, 0, .cons _ s => .cons h s
  | _, _, i + 1, .cons k s => .cons k (ErS.set h i s)
/-- l[j] = e, l a list of its own -/
theorem sx_setL {k j : Nat} {l : Addr} {xs : List E} (h : EvD te ρ O d) (ho : EvR ta ρ l) (hi : EvD tb ρ O (.int (j : Int))) (hk : O[k]? = some (l, .lst xs)) (hj : j < xs.length) (hP : P (.nx ρ (O.set k (l, .lst (xs.set j (.d d)))))) :
    SX (tAsg te (gSub ta tb rSetL)) ρ O P := fun F G H σ D w s q => h F G H σ w s _ fun v G1 H1 e1 w1 k1 => ho G1 H1 σ (s.mono e1) _ <| hi F G1 H1 σ w1 (s.mono e1) _ fun v2 G2 H2 e2 w2 k2 => by
  have hk' : (O ++ F)[k]? = some (l, .lst xs) := by rw [List.getElem?_append_left (List.getElem?_eq_some_iff.mp hk).1]; exact hk
  obtain ⟨o, h1, h2, _⟩ := w2.at hk'
  obtain ⟨us, rfl, h3⟩ := h2.lstE
  have hn : ixN us.length (j : Int) = some j := by
    unfold ixN
    rw [if_pos (by omega), if_pos (by rw [h3.len]; omega), Int.toNat_natCast]
  refine ⟨l, us, (j : Int), j, rfl, k2.isInt, h1, hn, q _ hP G2 _ σ (e1.trans e2) ?_ ((s.mono e1).mono e2)⟩
  have w3 := w2.set hk' (o' := .lst (us.set j v)) (oo' := .lst (xs.set j (.d d))) (ErS.set (.of (k1.mono e2)) j h3)
  rwa [List.set_append_left _ _ (List.getElem?_eq_some_iff.mp hk).1] at w3
theorem sx_forX {wi : TI} (hi : EvIX wi ρ O (fun ds O0 => ∃ I : Nat → List E → Own → Prop, I 0 ρ O0 ∧
    (∀ (i : Nat) d ρ1 O1, ds[i]? = some d → I i ρ1 O1 → ∃ ρ2 js, EvG g ρ1 d ρ2 js ∧ SX t ρ2 O1 (Turn (I (i + 1)) P)) ∧ (∀ ρ1 O1, I ds.length ρ1 O1 → P (.nx ρ1 O1)))) : SX (tFor wi g t) ρ O P := fun F G H σ D w s q =>
  hi F G H σ w s _ fun J G1 H1 ds O zz e1 w1 WK => by
  obtain ⟨I, h0, hs, hd⟩ := zz
  let Pv : Nat → L2.St → Hp → Prop := fun i σ' H' => i ≤ ds.length ∧ ∃ G' ρ' O', Ex G1 G' ∧ Wd (O' ++ F) G' H' ∧ Sl G' σ' ρ' ∧ I i ρ' O'
  refine ⟨fun i m σ' H' => m = ds.length - i ∧ Pv i σ' H', ⟨ds.length, by simp, Nat.zero_le _, G1, ρ, O, Ex.refl _, w1, s.mono e1, h0⟩, ?_⟩
  rintro i m σ' H' ⟨rfl, hle, G', ρ1, O1, e2, w2, s2, hI⟩
  by_cases hlt : i < ds.length
  · refine .inr ⟨WK.goes i H' (e2.trans w2.sub) hlt, Pv (i + 1), fun σ2 H2 p => ⟨_, by omega, rfl, p⟩, fun x H'' y => ?_⟩
    obtain ⟨G3, d, hdd, e3, w3, kd⟩ := WK.yields i H' x H'' _ G' e2 w2 hlt y
    obtain ⟨ρ2, js, hg, hb⟩ := hs i d ρ1 O1 hdd hI
    refine hg _ G3 H'' σ' x w3 (s2.mono e3) kd _ fun σ2 c s4 => hb F G3 H'' σ2 _ w3 s4 fun o z => ?_
    cases o with
    | nx ρ3 O3 => exact fun G4 H4 σ4 e4 w4 s4 => ⟨hlt, G4, ρ3, O3, (e2.trans e3).trans e4, w4, s4, z⟩
    | rt r O3 => exact fun v G4 H4 e4 w4 k4 => q _ z v G4 H4 (((e1.trans e2).trans e3).trans e4) w4 k4
    | bk ρ3 O3 => exact fun G4 H4 σ4 e4 w4 s4 => q _ z G4 H4 σ4 (((e1.trans e2).trans e3).trans e4) w4 s4
    | ct ρ3 O3 => exact fun G4 H4 σ4 e4 w4 s4 => ⟨hlt, G4, ρ3, O3, (e2.trans e3).trans e4, w4, s4, z⟩
  · have e : i = ds.length := by omega
    subst e
    exact .inl ⟨WK.stops H' (e2.trans w2.sub), q _ (hd ρ1 O1 hI) G' H' σ' (e1.trans e2) w2 s2⟩
theorem sx_for {wi : TI} (hi : EvI wi ρ O ds) (I : Nat → List E → Own → Prop) (h0 : I 0 ρ O)
    (hs : ∀ (i : Nat) d ρ1 O1, ds[i]? = some d → I i ρ1 O1 → ∃ ρ2 js, EvG g ρ1 d ρ2 js ∧ SX t ρ2 O1 (Turn (I (i + 1)) P)) (hd : ∀ ρ1 O1, I ds.length ρ1 O1 → P (.nx ρ1 O1)) : SX (tFor wi g t) ρ O P := sx_forX (hi.x ⟨I, h0, hs, hd⟩)
theorem sx_while (W : Nat → List E → Own → Prop) (m0 : Nat) (h0 : W m0 ρ O)
    (hs : ∀ m ρ1 O1, W m ρ1 O1 → ∃ b, EvT tt ρ1 O1 b ∧ (b = true → SX t ρ1 O1 (Turn (fun ρ2 O2 => ∃ m', m' < m ∧ W m' ρ2 O2) P)) ∧ (b = false → P (.nx ρ1 O1))) : SX (tWhile tt t) ρ O P := fun F G H σ D w s q => by
  refine ⟨fun m σ' H' => ∃ G' ρ' O', Ex G G' ∧ Wd (O' ++ F) G' H' ∧ Sl G' σ' ρ' ∧ W m ρ' O', ⟨m0, G, ρ, O, Ex.refl _, w, s, h0⟩, ?_⟩
  rintro m σ1 H1 ⟨G1, ρ1, O1, e1, w1, s1, hW⟩
  obtain ⟨b, hb, h1, h2⟩ := hs m ρ1 O1 hW
  refine hb F G1 H1 σ1 w1 s1 _ fun G2 H2 e2 w2 => ?_
  cases b with
  | true =>
    refine iteT ⟨fun σ' H' => ∃ m', m' < m ∧ ∃ G' ρ' O', Ex G G' ∧ Wd (O' ++ F) G' H' ∧ Sl G' σ' ρ' ∧ W m' ρ' O', fun σ' H' z => z, h1 rfl F G2 H2 σ1 _ w2 (s1.mono e2) fun o z => ?_⟩
    cases o with
    | nx ρ3 O3 =>
      obtain ⟨m', hm, z⟩ := z
      exact fun G4 H4 σ4 e4 w4 s4 => ⟨m', hm, G4, ρ3, O3, (e1.trans e2).trans e4, w4, s4, z⟩
    | rt r O3 => exact fun v G4 H4 e4 w4 k4 => q _ z v G4 H4 ((e1.trans e2).trans e4) w4 k4
    | bk ρ3 O3 => exact fun G4 H4 σ4 e4 w4 s4 => q _ z G4 H4 σ4 ((e1.trans e2).trans e4) w4 s4
    | ct ρ3 O3 =>
      obtain ⟨m', hm, z⟩ := z
      exact fun G4 H4 σ4 e4 w4 s4 => ⟨m', hm, G4, ρ3, O3, (e1.trans e2).trans e4, w4, s4, z⟩
  | false => exact iteF (q _ (h2 rfl) G2 H2 σ1 (e1.trans e2) w2 (s1.mono e2))
end

/-! ### promises and calls -/
abbrev Pr := List E → Own → (E → Own → Prop) → Prop
def spX (R : Pr) : Sp := fun vs H Q _ => ∃ (F : Own) (G : Hp) (es : List E) (O : Own) (Z : E → Own → Prop), Wd (O ++ F) G H ∧ ErS G vs es ∧ R es O Z ∧
  ∀ v G' H' r O', Z r O' → Ex G G' → Wd (O' ++ F) G' H' → Er G' (some v) r → Q v H'
/-- nothing changes: data in, a datum out -/
def prD (f : List PyData → PyData → Prop) : Pr := fun es O Z => ∃ ds d, es = ds.map E.d ∧ O = [] ∧ f ds d ∧ Z (.d d) []
section
variable {d : PyData} {ds es : List PyData} {ρ ρ' : List E} {O O' : Own} {ta : TA} {R : Pr} {XE : XK} {f : List PyData → PyData → Prop}
theorem ev_callD (h : EvA ta ρ O ds) (hf : f ds d) : EvD (tCall (spX (prD f)) [] XE ta) ρ O d := fun F G H σ w s Q q =>
  h F G H σ w s _ fun vs G1 H1 e1 w1 k1 => by
    rw [List.append_nil]
    refine ⟨O ++ F, G1, ds.map E.d, [], fun r O' => r = .d d ∧ O' = [], w1, .of k1, ⟨ds, d, rfl, rfl, hf, rfl, rfl⟩, fun v G' H' r O' z e w' k => ?_⟩
    obtain ⟨rfl, rfl⟩ := z
    exact q v G' H' (e1.trans e) w' k.dat
theorem cons_erase {α : Type} : ∀ {l : List α} {k : Nat} {p : α}, l[k]? = some p → (p :: l.eraseIdx k).Perm l
  | [], _, _, h => by simp at h
  | a :: l, 0, p, h => by
    simp at h
    subst h
    exact List.Perm.refl _
  | a :: l, k + 1, p, h => by
    have ih := cons_erase (l := l) (k := k) (p := p) (by simpa using h)
    rw [List.eraseIdx_cons_succ]
    exact (List.Perm.swap a p _).trans (ih.cons a)
/-- the k-th owned cell goes along -/
theorem ev_call1 {Z : E → Own → Prop} (h : EvX ta ρ O (fun es O1 => ∃ (k : Nat) (p : Addr × OO), O1[k]? = some p ∧ R es [p] (fun r O' => ∃ p', O' = [p'] ∧ Z r (O1.set k p')))) : Ev (tCall (spX R) [] XE ta) ρ O Z := fun F G H σ w s Q q =>
  h F G H σ w s _ fun vs G1 H1 es O1 z1 e1 w1 k1 => by
    rw [List.append_nil]
    obtain ⟨k, p, hk, hR⟩ := z1
    have hlt := (List.getElem?_eq_some_iff.mp hk).1
    have hp : (O1 ++ F).Perm ([p] ++ (O1.eraseIdx k ++ F)) := by
      rw [← List.append_assoc]
      refine List.Perm.append_right F ?_
      exact (cons_erase hk).symm
    refine ⟨O1.eraseIdx k ++ F, G1, es, [p], _, w1.perm hp, k1, hR, fun v G' H' r O' z e w' kk => ?_⟩
    obtain ⟨p', rfl, hz⟩ := z
    refine q v G' H' r _ hz (e1.trans e) (w'.perm ?_) kk
    rw [← List.append_assoc]
    refine List.Perm.append_right F ?_
    have h2 := cons_erase (l := O1.set k p') (k := k) (p := p') (by rw [List.getElem?_set, if_pos rfl, if_pos hlt])
    rw [List.eraseIdx_set_eq] at h2
    exact h2
theorem sp_run {N : List Str} {vs : List V} {H : Hp} {Q : VK} {t : TS} (h : spX R vs H Q XE) (hN : ∀ es O Z, R es O Z → SX t (es ++ List.replicate (N.length - es.length) .un) O (Ret Z)) :
    t { nx := fun _ H' => Q .non H', rt := Q } (L2.start N vs) H := by
  obtain ⟨F, G, es, O, Z, w, k, hR, q⟩ := h
  refine hN es O Z hR F G H _ _ w ?_ fun o z => ?_
  · unfold L2.start
    rw [← k.len]
    exact (Sl.ofVals k).app (Sl.none _)
  · cases o with
    | nx ρ1 O1 => exact fun G' H' σ' e w' s' => q .non G' H' _ O1 z e w' (.of .non)
    | rt r O1 => exact fun v G' H' e w' k => q v G' H' r O1 z e w' k
    | bk ρ1 O1 => exact z.elim
    | ct ρ1 O1 => exact z.elim
theorem sp_len {vs : List V} {H : Hp} {Q : VK} {n : Nat} (h : spX R vs H Q XE) (hn : ∀ es O Z, R es O Z → es.length = n) : vs.length = n := by
  obtain ⟨F, G, es, O, Z, w, k, hR, q⟩ := h
  rw [k.len, hn es O Z hR]
end
end Ly
namespace Ly
open PySem L2 Evl PySem.Spec PyProof.Rows
/-! ### tuple * int, any number -/
theorem tuple_mul_same (l : Addr) (items : Array Value) (n : Nat) (dd : Option Addr) (sl : Array (Option Value)) (x : Int) (u : Tok) (c0 : (decide (x < -(2 ^ 63)) || decide (x ≥ 2 ^ 63)) = false) (c1 : (items.isEmpty || x == 1) = true) :
    Meets (Builtin.«tuple.__mul__» ⟨[.ref l, .int x u], []⟩) (fun _ R s => s.heap.get? l = some { cls := .type "tuple", dict := dd, data := .seq items n, slots := sl } ∧ R (.ok (.ret (Value.ref l))) s) :=
  .of_wp fun prog w A R s h => by
    obtain ⟨hp, g, d, tk, os⟩ := s
    obtain ⟨hl, h⟩ := h
    have f1 := AutoSeq1.idx_int
    wp_walk using wpAny_loadPart' hl
    repeat (first
      | (refine wpAny_ite_false (decide_eq_false (by rw [c0]; exact Bool.false_ne_true)) ?_; wp_walk using wpAny_loadPart' hl)
      | (refine wpAny_ite_true (decide_eq_true c1) ?_; wp_walk using wpAny_loadPart' hl)
      | (exact ⟨_, rfl, h⟩))
theorem tuple_mul_none (l : Addr) (items : Array Value) (n : Nat) (dd : Option Addr) (sl : Array (Option Value)) (x : Int) (u : Tok) (c0 : (decide (x < -(2 ^ 63)) || decide (x ≥ 2 ^ 63)) = false) (c1 : (items.isEmpty || x == 1) = false) (c2 : (decide (x ≤ 0) || items.isEmpty) = true) :
    Meets (Builtin.«tuple.__mul__» ⟨[.ref l, .int x u], []⟩) (fun _ R s => s.heap.get? l = some { cls := .type "tuple", dict := dd, data := .seq items n, slots := sl } ∧
      R (.ok (.ret (Value.ref s.heap.objs.size))) { s with heap := s.heap.push { cls := Value.type "tuple", data := Data.seq #[] }, toks := s.toks }) :=
  .of_wp fun prog w A R s h => by
    obtain ⟨hp, g, d, tk, os⟩ := s
    obtain ⟨hl, h⟩ := h
    have f1 := AutoSeq1.idx_int
    wp_walk using wpAny_loadPart' hl
    repeat (first
      | (refine wpAny_ite_false (decide_eq_false (by rw [c0]; exact Bool.false_ne_true)) ?_; wp_walk using wpAny_loadPart' hl)
      | (refine wpAny_ite_false (decide_eq_false (by rw [c1]; exact Bool.false_ne_true)) ?_; wp_walk using wpAny_loadPart' hl)
      | (refine wpAny_ite_true (decide_eq_true c2) ?_; wp_walk using wpAny_loadPart' hl)
      | (exact ⟨_, rfl, h⟩))
def rRepA (K : PySem.W.Frag) : R2 := fun x y H Q => ∃ l k xs, x = .ref l ∧ y = .int k ∧ SqT K H l xs ∧ -1000000 ≤ k ∧ k ≤ 1000000 ∧ xs.length * k.toNat ≤ 1000000 ∧
  (xs = [] ∨ k = 1 → Q (.ref l) H) ∧ (xs ≠ [] → k ≤ 0 → ∀ p, H p = none → Q (.ref p) (upd H p (.tup []))) ∧ (xs ≠ [] → 2 ≤ k → ∀ p, H p = none → Q (.ref p) (upd H p (.tup (List.replicate k.toNat xs).flatten)))
section
variable {X : Cx}
theorem op_repA : OpR X (binaryOp .Mult) (rRepA X.K) := by
  intro pins s σ H x y v u Q I rx ry h
  obtain ⟨l, k, xs, rfl, rfl, hT, h1, h2, hz, q1, q2, q3⟩ := h
  cases rx
  obtain ⟨t, rfl⟩ := ry
  obtain ⟨its, r, ⟨⟨cls, dd, data, sl⟩, ho, hc, n, hd⟩, hs⟩ := I.tuple hT
  simp only at hc hd
  subst hc hd
  have hle : its.length = xs.length := r.length.symm
  have c0 : (decide (k < -(2 ^ 63)) || decide (k ≥ 2 ^ 63)) = false := by
    rw [decide_eq_false (by omega), decide_eq_false (by omega)] <;> rfl
  refine wpAny_binaryOp_repeat_ref (T := "tuple") (U := "int") (by decide) ⟨_, ho, rfl⟩ (fun s' => typeIs_int s' k t) noFill_tuple_mul F.fills_int_mul F.slot_int_rmul repeat_tuple F.slot_int_index.lookup
    (call_meets F.slot_int_rmul (typeIs_int s k t) F.entry_int_rmul (F.args_int_rmul_2 _ _) (int_rmul_tuple k t l its.toArray n dd sl) ⟨ho, rfl, ⟨_, ho, rfl⟩, ?_⟩)
  by_cases hsame : xs = [] ∨ k = 1
  · have c1 : (its.toArray.isEmpty || k == 1) = true := by
      rcases hsame with e | e
      · subst e
        have : its = [] := List.eq_nil_of_length_eq_zero hle
        subst this
        rfl
      · subst e
        simp
    exact call_meets F.slot_tuple_mul ⟨_, ho, rfl⟩ F.entry_tuple_mul (F.args_tuple_mul_2 _ _) (tuple_mul_same l its.toArray n dd sl k t c0 c1) ⟨ho, ⟨.ref l, H, I, rfl, q1 hsame⟩⟩
  · have hne : xs ≠ [] := fun e => hsame (.inl e)
    have hk1 : k ≠ 1 := fun e => hsame (.inr e)
    have hi : its.toArray.isEmpty = false := by
      cases its with
      | nil => exact absurd (List.eq_nil_of_length_eq_zero hle.symm) hne
      | cons a b => rfl
    have c1 : (its.toArray.isEmpty || k == 1) = false := by
      rw [hi, Bool.false_or]
      exact beq_eq_false_iff_ne.mpr hk1
    by_cases hk : k ≤ 0
    · have c2 : (decide (k ≤ 0) || its.toArray.isEmpty) = true := by
        rw [decide_eq_true hk]
        rfl
      refine call_meets F.slot_tuple_mul ⟨_, ho, rfl⟩ F.entry_tuple_mul (F.args_tuple_mul_2 _ _) (tuple_mul_none l its.toArray n dd sl k t c0 c1 c2) ⟨ho, ?_⟩
      refine ⟨.ref s.heap.objs.size, _, I.laid (t' := s.toks) (o := .tup []) (fun b ob q => Heap.get?_push_of_some _ q) (Nat.le_refl _) ?_, rfl, q2 hne hk _ (I.hok.fresh (Nat.le_refl _))⟩
      exact ⟨Nat.zero_le _, [], .nil, IsTup.new _ _⟩
    · have hk2 : 2 ≤ k := by omega
      have hsz0 : its.toArray.size = xs.length := by rw [List.size_toArray, hle]
      have hm : ((its.toArray.size : Nat) : Int) * k ≤ 1000000 := by
        rw [hsz0]
        have e : ((xs.length * k.toNat : Nat) : Int) = (xs.length : Int) * k := by
          rw [Int.natCast_mul, Int.toNat_of_nonneg (by omega)]
        rw [← e]
        omega
      have flen : (List.replicate k.toNat its).flatten.length ≤ sizeLine := by
        rw [PyProof.Rows.lm_len_rep_flat, hle, sizeLine_eq, Nat.mul_comm]
        omega
      have c2 : (decide (k ≤ 0) || its.toArray.isEmpty) = false := by
        rw [hi, Bool.or_false]
        exact decide_eq_false hk
      have c4 : Builtin.Tuple.tupleTooMany (((its.toArray.size : Nat) : Int) * k) = false := by
        unfold Builtin.Tuple.tupleTooMany
        rw [sizeLine_eq]
        exact decide_eq_false (by omega)
      refine call_meets F.slot_tuple_mul ⟨_, ho, rfl⟩ F.entry_tuple_mul (F.args_tuple_mul_2 _ _) (tuple_mulW l its.toArray n dd sl k t c0 c1 c2 (by omega) c4 (by rw [size_rep, List.size_toArray]; exact flen)) ⟨ho, ?_⟩
      rw [size_rep]
      refine ⟨.ref s.heap.objs.size, _, I.laid (t' := s.toks) (o := .tup (List.replicate k.toNat xs).flatten) (fun b ob q => Heap.get?_push_of_some _ q) (Nat.le_refl _) ?_, rfl, q3 hne hk2 _ (I.hok.fresh (Nat.le_refl _))⟩
      exact ⟨by rw [PyProof.Rows.lm_len_rep_flat, sizeLine_eq, Nat.mul_comm]; omega, _, r.rep k.toNat, IsTup.new _ _⟩
def rMulU (K : PySem.W.Frag) : R2 := fun x y H Q => rI CMul (fun i j => .int (i * j)) x y H Q ∨ rRepA K x y H Q
theorem op_mulU : OpR X (binaryOp .Mult) (rMulU X.K) := op_mul.or op_repA
end
section
variable {K : PySem.W.Frag} {xs : List PyData} {i j k : Int}
theorem mu_int (c : CMul i j) : RD (rMulU K) (.int i) (.int j) (.int (i * j)) := (rd_mul c).inl
theorem mu_tup (h1 : -1000000 ≤ k) (h2 : k ≤ 1000000) (hz : xs.length * k.toNat ≤ 1000000) : RD (rMulU K) (.tuple xs) (.int k) (.tuple (List.replicate k.toNat xs).flatten) := fun F G H vx vy w a b Q q => by
  obtain ⟨p, us, rfl, hp, hs⟩ := a.isTup
  refine .inr ⟨p, k, us, rfl, b.isInt, SqT.of (w.sub _ _ hp), h1, h2, by rw [hs.len]; exact hz, fun e => ?_, fun e hk t ht => ?_, fun e hk t ht => ?_⟩
  · have ex : (List.replicate k.toNat xs).flatten = xs := by
      rcases e with e | e
      · have : xs = [] := hs.nil_iff.mp e
        subst this
        induction k.toNat with
        | zero => rfl
        | succ n ih => rw [List.replicate_succ, List.flatten_cons, ih]; rfl
      · subst e
        show ([xs] : List (List PyData)).flatten = xs
        simp
    rw [ex] at q
    exact q _ G H (Ex.refl G) w a
  · have e0 : k.toNat = 0 := by omega
    rw [e0] at q
    obtain ⟨e, w2⟩ := w.new ht (.tup [])
    exact q _ _ _ e w2 (.tup upd_same .nil)
  · obtain ⟨e, w2⟩ := w.new ht (.tup (List.replicate k.toNat us).flatten)
    exact q _ _ _ e w2 (.tup upd_same ((hs.rep _).mono e))
end
theorem atD {α : Type} {xs : List α} {z : Int} {j : Nat} {v : α} (e : z = (j : Int)) (h : xs[j]? = some v) : L2.atI xs z = some v := by
  rw [e]
  exact atI_nat h
/-- a constant of the module -/
theorem pe_gc {X : Cx} {x : Str} {pos : Pos} {v : V} (hg : Gl X x) (h : ∃ u, X.mg x = some u ∧ RelV v u) (hd : (x == ("__debug__" : Str)) = false := by decide) : PE X (.Name x pos) (tC v) := by
  obtain ⟨u, hm, r⟩ := h
  exact pe_glob hg hm r hd
/-! ### enumerate of a tuple -/
theorem meets_enum1 {v : Value} {o : Obj} {H : Heap → Prop} (B : Begins v o H) :
    Meets (Builtin.«enumerate.__new__» ⟨[.type "enumerate", v], []⟩) (fun _ R s => H s.heap ∧
      R (.ok (.ret (.ref (s.heap.push o).objs.size))) { s with heap := (s.heap.push o).push { cls := .type "enumerate", data := .fields #[.none, .bool false, .ref s.heap.objs.size, rawInt 0, .none, .none] } }) :=
  .of_wp fun prog w A R s h => by
    obtain ⟨hp, g, d, tk, os⟩ := s
    obtain ⟨h1, h⟩ := h
    have hsub := sub_enumerate
    have q1 : ∀ {A' : Around} {E : Value → Shared → Prop} {Q : Value → Shared → Prop}, Q (.ref hp.objs.size) ⟨hp.push o, g, d, tk, os⟩ → wpAny (model prog w) A' (pyIter v) Q E ⟨hp, g, d, tk, os⟩ :=
      fun q => B.iter prog w _ _ ⟨hp, g, d, tk, os⟩ _ h1 q
    wp_walk using q1
    refine wpAny_stack_any fun st => wpAny_pure ?_
    split
    · rename_i c _ _ _ _ _
      cases (c == Value.type "enumerate")
      · wp_walk using q1
        exact ⟨_, rfl, h⟩
      · wp_walk using q1
        exact ⟨_, rfl, h⟩
    · wp_walk using q1
      exact ⟨_, rfl, h⟩
theorem call_enum1 {prog : Program} {w : World} {A : Around} {E : Value → Shared → Prop} {s : Shared} {v : Value} {o : Obj} {H : Heap → Prop} {Q : Value → Shared → Prop} (B : Begins v o H) (h1 : H s.heap)
    (h : ∀ h', IsEnum h' (s.heap.objs.size + 1) s.heap.objs.size 0 .none → h'.get? s.heap.objs.size = some o → h'.objs.size = s.heap.objs.size + 2 →
      (∀ b o, s.heap.get? b = some o → h'.get? b = some o) → Q (.ref (s.heap.objs.size + 1)) { s with heap := h' }) :
    wpAny (model prog w) A (call (.type "enumerate") [v]) Q E s := by
  refine callType_new F.called_enumerate (by decide) (F.typeCall_enumerate_1 _) (F.newCall_enumerate_1 _) (fun obj => F.args_object_init_2 obj _) F.entry_enumerate_new
    (meets_enum1 B) ⟨h1, ?_⟩
  have hz : (s.heap.push o).objs.size = s.heap.objs.size + 1 := Heap.size_push ..
  show _ ∧ _
  rw [hz]
  have he : IsEnum ((s.heap.push o).push { cls := .type "enumerate", data := .fields #[.none, .bool false, .ref s.heap.objs.size, rawInt 0, .none, .none] }) (s.heap.objs.size + 1) s.heap.objs.size 0 .none := by
    have := Heap.get?_push_size (s.heap.push o) (o := { cls := .type "enumerate", data := .fields #[.none, .bool false, .ref s.heap.objs.size, rawInt 0, .none, .none] }) rfl
    rw [hz] at this
    exact this
  refine ⟨⟨_, he, rfl⟩, h _ he (Heap.get?_push_of_some _ (Heap.get?_push_size _ B.free)) (by rw [Heap.size_push, hz]) fun b o x => Heap.get?_push_of_some _ (Heap.get?_push_of_some _ x)⟩
/-- the tuple at a, each item in a new pair -/
def IteT (K : PySem.W.Frag) (a : Addr) : It :=
  ⟨fun i H => ∃ (xs : List V) (x : V), SqT K H a xs ∧ xs[i]? = some x, fun i H v H' => ∃ T x, v = .ref T ∧ H T = none ∧ H' = upd H T (.tup [.int (i : Nat), x]) ∧ ∀ xs, SqT K H a xs → xs[i]? = some x, fun i H => ∃ xs : List V, SqT K H a xs ∧ xs.length = i⟩
theorem tup_ne {X : Cx} {h : Heap} {a it : Addr} {items : Array Value} {i : Nat} (p : IsTup h a items) (q : h.IsTupleIter it a i) : a ≠ it := fun e => by
  subst e
  obtain ⟨o, h1, h2, _⟩ := p
  obtain ⟨o', h3, h4, _⟩ := q
  rw [h1] at h3
  cases h3
  rw [h2] at h4
  injection h4 with h5
  exact absurd h5 (by decide)
theorem turn_enumT {P : Program} {w : World} {K : PySem.W.Frag} {elts : List Expr} {kk : Nat} {tpos : Pos} (a e it : Addr) :
    L2.Turn P w K (.Tuple elts kk tpos) (IteT K a) [e, it] e (fun i h => (∃ old, IsEnum h e it ((i : Nat) : Int) old) ∧ h.IsTupleIter it a i ∧ e ≠ it ∧ e ≠ a) where
  mem := by simp
  obj := fun i h st b hb => by
    obtain ⟨⟨old, he⟩, ⟨o, ho, hc, hd⟩, _⟩ := st
    have e' : b = e ∨ b = it := by simpa using hb
    rcases e' with z | z
    · rw [z]; exact ⟨_, he, fun v q => nomatch q⟩
    · rw [z]; exact ⟨o, ho, fun v q => by rw [hd] at q; cases q⟩
  keep := fun i h h' st k => let ⟨⟨old, he⟩, hi, hne⟩ := st; ⟨⟨old, k e (by simp) _ he⟩, hi.at fun o q => k it (by simp) o q, hne⟩
  item := by
    intro X hP hw hK hc i pins s σ H E I hf st hg
    subst hP hw hK
    obtain ⟨⟨old, he⟩, hit, hne, hea⟩ := st
    obtain ⟨xs, x, hq, hx⟩ := hg
    obtain ⟨its, rv, p, hz⟩ := I.tuple hq
    obtain ⟨u, hu, ru⟩ := rv.get hx
    have hel : e < s.heap.objs.size := Heap.lt_size he
    have hil : it < s.heap.objs.size := by obtain ⟨_, q, _⟩ := hit; exact Heap.lt_size q
    have hilt : i < its.toArray.size := by rw [List.size_toArray]; exact (List.getElem?_eq_some_iff.mp hu).1
    refine wpAny_pyNext_enum_itemD (Draws.tuple (A := X.A.in1) (I.ok.hd hc) it a (tup_ne (X := X) p hit) its.toArray) he ⟨hit, p⟩ hilt hne (by simp [hne, hea]) fun x' h' tk hx' ho st' hT hsz hk => ?_
    have ex : x' = u := by
      have := hx'.symm.trans (show its.toArray[i]? = some u by simpa using hu)
      exact Option.some.inj this
    subst ex
    refine ⟨_, rfl, wpAny_letOwnedTupleGo_enum (s := { s with heap := h', toks := tk + 1 }) ho fun h'' he' sb => ?_⟩
    have hT2 : h''.get? s.heap.objs.size = some { cls := .type "tuple", data := .seq #[.int i tk, x'] } := (sb.2 _ (Nat.ne_of_gt hel)).trans hT
    have new : ObjOk X.prog X.w (upd H s.heap.objs.size (.tup [.int (i : Nat), x])) h'' s.heap.objs.size (.tup [.int (i : Nat), x]) :=
      ⟨by show 2 ≤ sizeLine; decide, [.int i tk, x'], .cons ⟨_, rfl⟩ (.cons ru .nil), ⟨_, hT2, rfl, _, rfl⟩⟩
    have I1 : Inv X pins σ (upd H s.heap.objs.size (.tup [.int (i : Nat), x])) { s with heap := h'', toks := tk + 1 } :=
      I.turnedNew (ch := [e, it]) (fun b ob hb q => (sb.2 b (fun z => hb (by simp [z]))).trans (hk b ob (fun z => hb (by simp [z])) (fun z => hb (by simp [z])) q)) hf (Nat.le_refl _) new
    refine ⟨.ref s.heap.objs.size, _, I1, rfl, ⟨_, x, rfl, I.hok.fresh (Nat.le_refl _), rfl, fun ys hy => by rw [I.tuple_inj hy hq]; exact hx⟩, ⟨⟨x', ?_⟩, st'.1.at fun o q => (sb.2 it (Ne.symm hne)).trans q, hne, hea⟩, fun b hb => ?_⟩
    · have e1 : ((i + 1 : Nat) : Int) = (i : Int) + 1 := by omega
      rw [e1]; exact he'
    · have hb' : b < s.heap.objs.size := by
        have e' : b = e ∨ b = it := by simpa using hb
        rcases e' with z | z
        · rw [z]; exact hel
        · rw [z]; exact hil
      rw [upd_ne (Nat.ne_of_lt hb')]
      exact (hf b hb).1
  done := by
    intro X hP hw hK hc i pins s σ H E I hf st hg
    subst hP hw hK
    obtain ⟨⟨old, he⟩, hit, hne, hea⟩ := st
    obtain ⟨xs, hq, hx⟩ := hg
    obtain ⟨its, rv, p, hz⟩ := I.tuple hq
    obtain ⟨f0, f1, f2, f3, f4, f5⟩ := hf it (by simp)
    have hl := rv.length
    have hn : i = its.toArray.size := by rw [List.size_toArray]; omega
    exact wpAny_pyNext_enum_endD (Draws.tuple (A := X.A.in1) (I.ok.hd hc) it a (tup_ne (X := X) p hit) its.toArray) he ⟨hn ▸ hit, p⟩ fun h' eb => ⟨rfl, I.turned (t' := s.toks) (fun b o hb q => eb b o hb q) f0 f1 f3 f4 f5⟩
  self := fun A i s Q E st h => let ⟨⟨_, he⟩, _⟩ := st; wpAny_pyIter_enum he h
def iEnumT (K : PySem.W.Frag) (ta : TA) : TI := fun σ H R => ta σ H fun vs H1 => ∃ a xs, vs = [.ref a] ∧ SqT K H1 a xs ∧ R (IteT K a) H1
theorem pi_enumT {X : Cx} {e : Expr} {ta : TA} {p pos tpos : Pos} {elts : List Expr} {kk : Nat} (hg : Gl X "enumerate") (hm : X.mg "enumerate" = none) (ha : PA X [e] ta) (hs : starEach [e] X.env = [(false, eval e X.env)] := by rfl) :
    PI X (.Tuple elts kk tpos) (.Call (.Name "enumerate" p) [e] [] pos) (iEnumT X.K ta) := by
  refine ⟨fun pins s σ H R I h => ?_⟩
  refine Call_ (ld_blt I hg hm boot_enumerate (PyProof.Rows.callWith_type1 (thn (ha.run pos pins s σ H _ I h) fun us s1 ⟨vs, H1, I1, r1, q1⟩ => ?_) hs rfl))
  obtain ⟨a, xs, ex, hq, q⟩ := q1
  subst ex
  cases r1 with
  | cons r rr =>
    cases rr
    cases r
    obtain ⟨its, rv, p', hz⟩ := I1.tuple hq
    have hlt : a < s1.heap.objs.size := by
      obtain ⟨o, ho, _⟩ := p'
      exact Heap.lt_size ho
    refine call_enum1 (begins_tuple a its.toArray) p' fun h' he hit hsz hk => wpAny_pyIter_enum he ?_
    have I2 : Inv X pins σ H1 { s1 with heap := h' } := I1.kept (t' := s1.toks) hk
    refine ⟨s1.heap.objs.size + 1, [s1.heap.objs.size + 1, s1.heap.objs.size], _, _, H1, rfl, I2, turn_enumT a (s1.heap.objs.size + 1) s1.heap.objs.size, ⟨⟨.none, he⟩, ⟨_, hit, rfl, rfl⟩, Nat.succ_ne_self _, Nat.ne_of_gt (Nat.lt_succ_of_lt hlt)⟩, fun b hb => ?_, q⟩
    have e' : b = s1.heap.objs.size + 1 ∨ b = s1.heap.objs.size := by simpa using hb
    have hle : s1.heap.objs.size ≤ b := by
      rcases e' with z | z
      · rw [z]; exact Nat.le_add_right _ _
      · rw [z]; exact Nat.le_refl _
    exact I1.fpOk hle (I1.hok.fresh hle)
theorem walk_enumT {K : PySem.W.Frag} {a : Addr} {xs : List V} : Walk (IteT K a) xs.length (fun H => SqT K H a xs) (YPair (fun i => some (.int (i : Nat))) (fun i => xs[i]?)) := by
  refine ⟨fun i _ hi q => ⟨xs, xs[i], q, by simp [hi]⟩, fun _ q => ⟨xs, q, rfl⟩, fun i H v H' _ q y => ?_⟩
  obtain ⟨T, x, h1, h2, h3, h4⟩ := y
  exact ⟨T, .int (i : Nat), x, h1, h2, h3, rfl, h4 xs q⟩
theorem ei_enumT {K : PySem.W.Frag} {ds : List PyData} {ρ : List E} {O : Own} {ta : TA} (h : EvA ta ρ O [.tuple ds]) : EvI (iEnumT K ta) ρ O (enumD ds) := fun F G H σ w s R q => h F G H σ w s _ fun v G1 H1 e1 w1 k1 => by
  obtain ⟨v, rfl, k⟩ := k1.one
  obtain ⟨a, xs, rfl, ha, hs⟩ := k.isTup
  refine ⟨a, xs, rfl, SqT.of (w1.sub _ _ ha), q _ G1 H1 e1 w1 (wd_pair walk_enumT (by rw [enumD_len, hs.len]) (fun H x => SqT.of (x _ _ ha)) fun i x y hx hy hi => ?_)⟩
  cases hx
  obtain ⟨d, h1, h2⟩ := hs.getV hy
  exact ⟨_, d, by rw [enumD_get, h1]; rfl, .int _, h2⟩

/-! ### str of a number, of a text -/
def rStrI : List V → Hp → VK → Prop := fun xs H Q => ∃ i, xs = [.int i] ∧ i.natAbs.log2 < 1920 ∧ Q (.str (toString i)) H
def rStrS : List V → Hp → VK → Prop := fun xs H Q => ∃ a, xs = [.str a] ∧ Q (.str a) H
def rStrU : List V → Hp → VK → Prop := fun xs H Q => rStrI xs H Q ∨ rStrS xs H Q
theorem call_strU {X : Cx} : CallR X (.type "str") rStrU := (show CallR X (.type "str") rStrI from call_str_int).or (show CallR X (.type "str") rStrS from SkE.call_str_str)
theorem str_str {s : Str} : RC rStrU [.str s] (.str s) := fun F G H vs w a Q q => by
  obtain ⟨v, rfl, k⟩ := a.one
  exact .inr ⟨s, by rw [k.isStr], q _ G H (Ex.refl G) w (.str _)⟩
theorem str_int {i : Int} (h : i.natAbs.log2 < 1920) : RC rStrU [.int i] (.str (toString i)) := fun F G H vs w a Q q => by
  obtain ⟨v, rfl, k⟩ := a.one
  exact .inl ⟨i, by rw [k.isInt], h, q _ G H (Ex.refl G) w (.str _)⟩
end Ly
namespace Ly
open PySem L2 Evl PySem.Spec PyProof.Rows
/-! ### dicts whose keys are tuples: what the program's calls do -/
def mergeT (kvs more : List (List Key × V)) : List (List Key × V) := more.foldl (fun acc kv => putK acc kv.1 kv.2) kvs
theorem KT_merge {H : Hp} {more : List (List Key × V)} {rs : List (List Key × Addr × Value)} (t : KT H more rs) : ∀ {kvs : List (List Key × V)} {vs : List (List Key × Addr × Value)}, KT H kvs vs → KT H (mergeT kvs more) (storedAllH vs rs) := by
  unfold KT at t
  induction t with
  | nil => exact fun r => r
  | @cons p q ps qs h t ih =>
    intro kvs vs r
    have e : KT H (putK kvs p.1 p.2) (storedH vs q.1 q.2.1 q.2.2) := by
      have := KT.put r p.1 (b := q.2.1) h.2.1 h.2.2
      rw [← h.1]
      exact this
    exact ih e
theorem mergeT_len : ∀ (more kvs : List (List Key × V)), (mergeT kvs more).length ≤ kvs.length + more.length
  | [], kvs => Nat.le_refl _
  | p :: r, kvs => by
    have h1 := mergeT_len r (putK kvs p.1 p.2)
    have h2 := length_putK kvs p.1 p.2
    show (mergeT (putK kvs p.1 p.2) r).length ≤ _
    rw [List.length_cons]
    omega
section
variable {X : Cx} {pins : List (Addr × Obj)} {σ : L2.St} {H : Hp} {s : Shared}
/-- a key's tuple, its dict's pair -/
abbrev PT := Addr × Addr × List Key × V
def PtAt (K : PySem.W.Frag) (H : Hp) (p : PT) : Prop := SqT K H p.1 [.ref p.2.1, p.2.2.2] ∧ H p.2.1 = some (.tup (p.2.2.1.map kV))
theorem ptOf (I : Inv X pins σ H s) : ∀ {ps : List PT}, (∀ p ∈ ps, PtAt X.K H p) → ∃ prs : List (List Key × Addr × Value), KT H (ps.map fun p => p.2.2) prs ∧ prs.length = ps.length ∧
    ∀ (j : Nat) (x : List Key × Addr × Value), prs[j]? = some x → ∃ p, ps[j]? = some p ∧ IsTup s.heap p.1 #[.ref x.2.1, x.2.2]
  | [], _ => ⟨[], .nil, rfl, fun j q e => by simp at e⟩
  | p :: ps, h => by
    obtain ⟨prs, r, hl, hp⟩ := ptOf I (ps := ps) fun q hq => h q (List.mem_cons_of_mem _ hq)
    obtain ⟨h1, h2⟩ := h p List.mem_cons_self
    obtain ⟨its, rv, ht, _⟩ := I.tuple h1
    obtain ⟨u, y, ei, ru, ry⟩ := vals2 rv
    subst ei
    cases (show u = Value.ref p.2.1 from ru)
    refine ⟨(p.2.2.1, p.2.1, y) :: prs, .cons ⟨rfl, h2, ry⟩ r, by rw [List.length_cons, List.length_cons, hl], fun j q e => ?_⟩
    cases j with
    | zero =>
      have e' : (p.2.2.1, p.2.1, y) = q := Option.some.inj e
      subst e'
      exact ⟨p, rfl, ht⟩
    | succ j =>
      obtain ⟨b, e1, e2⟩ := hp j q (by simpa using e)
      exact ⟨b, by simpa using e1, e2⟩
def rDictPT (K : PySem.W.Frag) : List V → Hp → VK → Prop := fun xs H Q => ∃ (a : Addr) (ps : List PT), xs = [.ref a] ∧ SqL K H a (ps.map fun p => V.ref p.1) ∧ (∀ p ∈ ps, PtAt K H p) ∧ ∀ q, H q = none → Q (.ref q) (upd H q (.dT (mergeT [] (ps.map fun p => p.2.2))))
theorem isTup_isTuple {h : Heap} {a : Addr} {k v : Value} (x : IsTup h a #[k, v]) : h.IsTuple a #[k, v] := by
  obtain ⟨o, ho, r⟩ := x
  obtain ⟨a1, a2, a3⟩ := r
  first | exact ⟨o, ho, a1, a2, a3⟩ | exact ⟨o, ho, a1, a3, a2⟩ | exact ⟨o, ho, a1, a3⟩
theorem call_dictPT (hc : X.calm = true) (hu : X.A.units + 65 < cLine) : CallR X (.type "dict") (rDictPT X.K) := by
  intro pins s σ H xs us Q I r q
  obtain ⟨a, ps, ex, hq, hp, q⟩ := q
  subst ex
  obtain ⟨u, eu, rx⟩ := vals1 r
  subst eu
  cases rx
  obtain ⟨its, rv, pl, hz⟩ := I.list hq
  have ei := refs_at (ps := ps.map fun p => p.1) (by rw [List.map_map]; exact rv)
  subst ei
  rw [List.length_map] at hz
  obtain ⟨prs, rel, hl, hpr⟩ := ptOf I hp
  obtain ⟨o, n, ho, hcl, hd, hdat⟩ := pl
  have hvl : (prs.map fun x => (Value.ref x.2.1, x.2.2)).length = ps.length := by rw [List.length_map, hl]
  refine call_dict_pairsH (knd := tupleKind (mixKind X.prog X.w)) (ps := prs) (wr := []) (PairArg.list a _ (fun j => match ps[j]? with | some p => p.1 | none => 0) (prs.map fun x => (Value.ref x.2.1, x.2.2))) (I.ok.hd hc) ?_ ⟨⟨o, n, ho, hcl, hd, hdat⟩, ?_, fun j k v hj => ?_⟩ ⟨by rw [List.length_map], fun i key v hi => ?_⟩ (fun h' hk x hx => ?_) (by rw [hvl]; exact hz) fun h' tk hd' hk => ?_
  · show X.A.units + 1 + 1 < cLine
    omega
  · simp [hl]
  · rw [List.getElem?_map] at hj
    cases hx : prs[j]? with
    | none => rw [hx] at hj; cases hj
    | some x =>
      rw [hx] at hj
      have e : (Value.ref x.2.1, x.2.2) = (k, v) := Option.some.inj hj
      obtain ⟨p, e1, e2⟩ := hpr j x hx
      cases e
      refine ⟨by simp [e1], ?_⟩
      simp only [e1]
      exact .inl (isTup_isTuple e2)
  · have hi' : (prs.map fun x => (Value.ref x.2.1, x.2.2))[i]? = some (key, v) := hi
    rw [List.getElem?_map] at hi'
    cases hx : prs[i]? with
    | none => rw [hx] at hi'; cases hi'
    | some x =>
      rw [hx] at hi'
      have e : (Value.ref x.2.1, x.2.2) = (key, v) := Option.some.inj hi'
      cases e
      exact ⟨x.1, x.2.1, rfl, rfl⟩
  · have all : ∀ {l : List (List Key × V)} {m : List (List Key × Addr × Value)}, KT H l m → ∀ x ∈ m, (tupleKind (mixKind X.prog X.w)).is s.heap x.1 x.2.1 := by
      intro l m q
      induction q with
      | nil => intro x hx; exact nomatch hx
      | @cons p q ps qs hq t ih =>
        intro x hx
        rcases List.mem_cons.mp hx with e | hx
        · subst e
          exact key_of I.hok (by rw [← hq.1]; exact hq.2.1)
        · exact ih x hx
    have hki := all rel x hx
    refine tupleKind_stays.stays (fun b o vs m e z => hk b o ?_ (by simp) e) hki
    exact Nat.ne_of_lt (Heap.lt_size e)
  · have hm : (s.heap.objs.size == sysModules) = false := beq_eq_false_iff_ne.mpr (Nat.ne_of_gt I.big)
    have hn := I.hok.fresh (Nat.le_refl s.heap.objs.size)
    obtain ⟨q1, es, ep, hq1, h2, h3, h4, _, h5⟩ := hd'
    have hlen := mergeT_len (ps.map fun p => p.2.2) []
    rw [List.length_map] at hlen
    refine ⟨.ref s.heap.objs.size, _, I.laid (t' := tk) (o := .dT (mergeT [] (ps.map fun p => p.2.2))) (fun b o e => hk b o (by simp) e) (Nat.le_refl _) ⟨by simp at hlen; omega, hm, _, (KT_merge rel .nil).keeps fun c ys ec => ?_, q1, es, ep, hq1, h2, h3, h4, h5⟩, rfl, q _ hn⟩
    rw [upd_ne (ne_of_none ec hn)]
    exact ec
end
/-! tuple(d) -/
section
variable {prog : Program} {w : World} {A : Around} {E : Value → Shared → Prop} {s : Shared} {d : Addr} {n : Nat} {P : Nat → Value → Prop} {OK : Heap → Prop}
theorem collect_kdl {Q : List Value → Shared → Prop} (K : PySem.W.KdlSrc prog w "dict" d d n P OK) (hh : A.handled = none) (hok : OK s.heap) (hn : n ≤ sizeLine)
    (hQ : ∀ (h' : Heap) (tk : Nat) (acc : Array Value), (∀ b o, s.heap.get? b = some o → h'.get? b = some o) → ItemsOf P acc n → Q acc.toList { s with heap := h', toks := tk }) :
    wpAny (model prog w) A (collect (.ref d)) Q E s := by
  unfold collect
  refine wpAny_bind (wpAny_runValue (codeAny_builtin PySem.F.entry_proto_collect ?_))
  rw [Around.under_plainId PySem.F.plain_proto_collect _]
  show wpAny _ A.in1 (newList [] >>= fun l => again (.builtin "list.__iadd__" ⟨[l, .ref d], []⟩)) _ _ s
  refine wpAny_bind (wpAny_newObj_type ?_)
  refine wpAny_pure ⟨plainId_quiet PySem.F.plain_list_iadd _, codeAny_builtin PySem.F.entry_list_iadd ?_⟩
  rw [Around.under_plainId PySem.F.plain_list_iadd _]
  show wpAny _ A.in1 (Builtin.List.listExtendWith (.ref s.heap.objs.size) (.ref d) (.ref s.heap.objs.size)) _ _ _
  have hS : (s.heap.push { cls := .type "list", data := .seq ([] : List Value).toArray }).get? s.heap.objs.size = some { cls := .type "list", data := .seq #[] 0 } := Heap.get?_push_size _ rfl
  have hlt := (K.there _ hok).1
  refine wpAny_mono (PySem.W.kdl_extend (A := A) (R := fun rr s' => rr = .ok (.ret (.ref s.heap.objs.size)) ∧ ∃ (h' : Heap) (tk : Nat) (acc : Array Value) (c' : Nat), s' = { s with heap := h', toks := tk } ∧
      (∀ b o, s.heap.get? b = some o → h'.get? b = some o) ∧ h'.get? s.heap.objs.size = some { cls := .type "list", dict := none, data := .seq acc c', slots := #[] } ∧ ItemsOf P acc n)
    (s := { s with heap := s.heap.push { cls := .type "list", data := .seq ([] : List Value).toArray } }) K hh (K.keep _ _ hok fun b _ o e => Heap.get?_push_of_some _ e) s.heap.objs.size (Nat.ne_of_gt hlt) (Nat.ne_of_gt hlt) (.ref s.heap.objs.size) 0 hS
    (fun h' tk acc c' hk e hi => ⟨rfl, h', tk, acc, c', rfl, fun b o q => hk b o (Nat.ne_of_lt (Heap.lt_size q)) (Heap.get?_push_of_some _ q), e, hi⟩) hn) (fun fin s' h => ?_) (fun e s' h => ?_)
  · cases fin with
    | done f =>
      obtain ⟨e, h', tk, acc, c', rfl, hk, hS', hi⟩ := h
      cases e
      show wpAny _ A (load s.heap.objs.size >>= _) _ _ _
      exact wpAny_bind (wpAny_load hS' (wpAny_pure (hQ h' tk acc hk hi)))
    | again c' =>
      refine ⟨h.1, codeAny_mono h.2 fun rr s'' hr' => ?_⟩
      obtain ⟨rfl, h', tk, acc, c', rfl, hk, hS', hi⟩ := hr'
      show wpAny _ A (load s.heap.objs.size >>= _) _ _ _
      exact wpAny_bind (wpAny_load hS' (wpAny_pure (hQ h' tk acc hk hi)))
  · exact absurd h.1 (by simp)
theorem code_tuple_new_kdl {Q₁ : Value → Shared → Prop} (K : PySem.W.KdlSrc prog w "dict" d d n P OK) (hh : A.handled = none) (hok : OK s.heap) (hn : n ≤ 2 ^ 24)
    (h : ∀ (h' : Heap) (tk : Nat) (acc : Array Value), (∀ b o, s.heap.get? b = some o → h'.get? b = some o) → ItemsOf P acc n →
      Q₁ (.ref h'.objs.size) { s with heap := h'.push { cls := .type "tuple", data := .seq acc }, toks := tk }) :
    codeAny (model prog w) A (.call (.builtin "tuple.__new__") ⟨[.type "tuple", .ref d], []⟩) (wants Q₁ E) s := by
  refine codeAny_of_tree ?_
  show wpAny _ A.in1 (do checkBuiltinCall "tuple.__new__" ⟨[.type "tuple", .ref d], []⟩; again (.builtin "tuple.__new__" ⟨[.type "tuple", .ref d], []⟩)) _ _ s
  refine wpAny_bind (wpAny_of_eq (PySem.F.newCall_tuple_1 _) (wpAny_pure ⟨plainId_quiet PySem.F.plain_tuple_new _, codeAny_builtin PySem.F.entry_tuple_new ?_⟩))
  rw [Around.under_plainId PySem.F.plain_tuple_new _]
  have hsub := sub_tuple_self
  have hinit := init_tuple_lookup
  have hmh := madeHere_tuple
  have hTI : s.TypeIs (.ref d) "dict" := K.type _ hok
  have hh1 : A.in1.handled = none := hh
  wp_walk using wpAny_typeOf hTI, collect_kdl (A := A.in1) K hh1 hok (by rw [sizeLine_eq]; omega)
  intro h' tk acc hk hacc
  show wpAny _ _ (Builtin.Tuple.tupleExact acc.toList.toArray >>= fun v => ret v) _ _ _
  unfold Builtin.Tuple.tupleExact
  refine wpAny_bind (wpAny_newObj_type ?_ (by show acc.toList.toArray.size ≤ sizeLine; simp only [Array.toArray_toList]; rw [hacc.1, sizeLine_eq]; omega))
  refine wpAny_pure ?_
  have e : acc.toList.toArray = acc := by simp
  rw [e]
  exact h h' tk acc hk hacc
theorem call_tuple_kdl {Q : Value → Shared → Prop} (K : PySem.W.KdlSrc prog w "dict" d d n P OK) (hh : A.handled = none) (hok : OK s.heap) (hn : n ≤ 2 ^ 24)
    (hQ : ∀ (h' : Heap) (tk : Nat) (acc : Array Value), (∀ b o, s.heap.get? b = some o → h'.get? b = some o) → ItemsOf P acc n →
      Q (.ref h'.objs.size) { s with heap := h'.push { cls := .type "tuple", data := .seq acc }, toks := tk }) :
    wpAny (model prog w) A (call (.type "tuple") [.ref d]) Q E s := by
  refine callType_codes (Q₁ := fun obj s₁ => s₁.TypeIs obj "tuple" ∧ Q obj s₁) PySem.F.called_tuple (PySem.F.typeCall_tuple_1 _) PySem.F.entry_object_init
    (code_tuple_new_kdl (A := A.in1) K hh hok hn fun h' tk acc hk hacc => ⟨⟨_, Heap.get?_push_size _ rfl, rfl⟩, hQ h' tk acc hk hacc⟩) fun obj s₁ h₁ => ?_
  exact ⟨h₁.1, PySem.F.args_object_init_2 obj _, object_init_meets PySem.F.called_tuple.init.lookup PySem.F.called_tuple.made (by decide) prog w A.in1 _ s₁ ⟨h₁.1, rfl, h₁.2⟩⟩
end
section
variable {X : Cx} {pins : List (Addr × Obj)} {σ : L2.St} {H : Hp} {s : Shared}
def rTupDT : List V → Hp → VK → Prop := fun xs H Q => ∃ d kvs, xs = [V.ref d] ∧ Rd H d (.dT kvs) ∧ ∀ p bs, H p = none → IsKeys H kvs bs → Q (.ref p) (upd H p (.tup (bs.map V.ref)))
theorem call_tuple_dT (hc : X.calm = true) : CallR X (.type "tuple") rTupDT := by
  intro pins s σ H xs us Q I r h
  obtain ⟨d, kvs, rfl, hd, q⟩ := h
  obtain ⟨u, rfl, rx⟩ := vals1 r
  cases rx
  obtain ⟨z, hs, ks, pr, o, es, ep, ho, hx, hdt, he, hn⟩ := (show ObjOk X.prog X.w H s.heap d (.dT kvs) from hd.ok I.hok)
  have l1 : es.size = ks.length := size_of_entries he
  have l2 : kvs.length = ks.length := Paired.length pr
  refine call_tuple_kdl (kdl_raw hs hx hdt) (I.ok.hd hc) ho (by rw [sizeLine_eq] at z; omega) fun h' tk acc' kp it => ?_
  have ea : acc'.toList = ks.map fun x => Value.ref x.2.1 := by
    have hl : acc'.toList.length = ks.length := by rw [Array.length_toList, it.1]; exact l1
    apply List.ext_getElem?
    intro j
    rw [List.getElem?_map]
    cases hj : acc'.toList[j]? with
    | none =>
      have h1 := List.getElem?_eq_none_iff.mp hj
      rw [List.getElem?_eq_none (by omega)]
      all_goals rfl
    | some v =>
      obtain ⟨en, hen, hv⟩ := it.2 j v (by rw [← Array.getElem?_toList]; exact hj)
      have qe := entry_at he j
      rw [hen] at qe
      cases hb : ks[j]? with
      | none =>
        rw [hb] at qe
        exact nomatch (show some en = none from qe)
      | some b =>
        rw [hb] at qe
        have e2 : en = entryOfKey (tupleKind (mixKind X.prog X.w)) b := Option.some.inj qe
        rw [hv, e2]
        all_goals rfl
  have eb : acc'.toList = (ks.map fun x => x.2.1).map Value.ref := by rw [ea, List.map_map]; all_goals rfl
  have rv : Vals ((ks.map fun x => x.2.1).map V.ref) acc'.toList := by rw [eb]; exact vals_refs _
  have hz : ((ks.map fun x => x.2.1).map V.ref).length ≤ sizeLine := by rw [List.length_map, List.length_map]; omega
  have I1 : Inv X pins σ H { s with heap := h', toks := tk } := I.kept (t' := tk) kp
  have I2 : Inv X pins σ (upd H h'.objs.size (.tup ((ks.map fun x => x.2.1).map V.ref))) { s with heap := h'.push { cls := .type "tuple", data := .seq acc' }, toks := tk } :=
    I1.laid (t' := tk) (fun b o e => Heap.get?_push_of_some _ e) (Nat.le_refl _) (show ObjOk X.prog X.w _ _ _ (.tup ((ks.map fun x => x.2.1).map V.ref)) from ⟨hz, acc'.toList, rv, by have := IsTup.new h' acc'; rw [Array.toArray_toList]; exact this⟩)
  exact ⟨.ref h'.objs.size, _, I2, rfl, q _ _ (I1.hok.fresh (Nat.le_refl _)) (isKeys_of pr)⟩
/-! d.update(d2), d2 of one key at most -/
def rUpdT : V → List V → Hp → VK → Prop := fun x xs H Q => ∃ (d o : Addr) (kvs more : List (List Key × V)), x = .ref d ∧ xs = [.ref o] ∧ d ≠ o ∧ H d = some (.dT kvs) ∧ H o = some (.dT more) ∧ more.length ≤ 1 ∧ kvs.length + 1 ≤ sizeLine ∧ Q .non (upd H d (.dT (mergeT kvs more)))
theorem mt_updT (hu : X.A.units + 65 < cLine) : MtR X "dict.update" rUpdT := by
  intro pins s σ H x xs v us Q I rx rxs h
  obtain ⟨d, o, kvs, more, rfl, rfl, hne, hd, ho, h1, hl, q⟩ := h
  cases rx
  obtain ⟨u, rfl, ru⟩ := vals1 rxs
  cases ru
  obtain ⟨z, hds, ks, rel, dd⟩ := dt_of I.hok hd
  obtain ⟨z2, hos, ks2, rel2, dd2⟩ := dt_of I.hok ho
  have l1 : kvs.length = ks.length := Paired.length rel
  have l2 : more.length = ks2.length := Paired.length rel2
  refine call_update_dictH (knd := tupleKind (mixKind X.prog X.w)) (show X.A.units + 1 < cLine by omega) hne hos dd dd2 (.inr ⟨fun x hx => ?_, ?_⟩) (by omega) fun h' hd' ho' hs => ?_
  · obtain ⟨_, _, _, _, _, _, _, his, _⟩ := dd2
    exact tupleKind_stays.tuple (his x hx)
  · cases ks2 with
    | nil => exact List.nodup_nil
    | cons a r =>
      cases r with
      | nil => exact List.nodup_cons.mpr ⟨by simp, List.nodup_nil⟩
      | cons b r => simp at l2; omega
  · obtain ⟨q1, es, ep, hq1, h2, h3, h4, _, h5⟩ := hd'
    have hlen := mergeT_len more kvs
    refine ⟨.non, _, d_write (t' := s.toks) (ob := .dT (mergeT kvs more)) I (by rw [hd]; exact True.intro) hs ⟨q1, hq1⟩ ⟨by omega, hds, _, (KT_merge rel2 rel).keeps fun c ys ec => ?_, q1, es, ep, hq1, h2, h3, h4, h5⟩, rfl, q⟩
    rw [upd_ne (ne_of ec hd (fun z => nomatch z))]
    exact ec
/-! {k: v}, k a tuple -/
def tDispT (tk tv : TE) : TE := fun σ H Q => ∀ p, H p = none → tk σ (upd H p (.dT [])) fun x H1 => tv σ H1 fun y H2 => H2 p = some (.dT []) ∧ ∃ (b : Addr) (k : List Key), x = .ref b ∧ H2 b = some (.tup (k.map kV)) ∧ Q (.ref p) (upd H2 p (.dT [(k, y)]))
theorem Dict_H {env : Env} {keys : List (Option Expr)} {values : List Expr} {pos : Pos} {pairs : List (Sem Value × Sem Value)} {prog : Program} {w : World} {A : Around} {E : Value → Shared → Prop} {Q : Value → Shared → Prop} (hu : (tupleKind (mixKind prog w)).room A)
    (hshape : (evalEachOpt keys env).zip ((evalEach values env).map fun v => do let x ← v; standAt pos; pure x) = pairs.map fun p => (some p.1, p.2)) (h0 : pairs ≠ []) (hlen : pairs.length ≤ 15)
    (h : wpAny (model prog w) A (evalPairs pairs) (fun vs s₁ => ∃ ps, CarriesH (tupleKind (mixKind prog w)) s₁.heap vs ps ∧ s₁.heap.DictOfH (tupleKind (mixKind prog w)) s.heap.objs.size [] ∧
      ∀ h' tk, h'.DictOfH (tupleKind (mixKind prog w)) s.heap.objs.size (storedAllH [] ps) → Heap.SameBut s.heap.objs.size s₁.heap h' → Q (.ref s.heap.objs.size) { s₁ with heap := h', toks := tk }) E
      { s with heap := s.heap.push { cls := .type "dict", data := .dict #[] } }) :
    wpAny (model prog w) A (eval (.Dict keys values pos) env) Q E s := by
  rw [arm_eval_Dict, hshape, dictDisplay_pairs pairs h0 (by omega)]
  exact wpAny_bind (wpAny_standAt (wpAny_bind (wpAny_subDictH (knd := tupleKind (mixKind prog w)) (Q := fun d s' => wpAny (model prog w) A (pure (Value.ref d)) Q E s') hu hlen
    (wpAny_mono h (fun vs s₁ h₁ => by obtain ⟨ps, hc, hm, hq⟩ := h₁; exact ⟨ps, hc, hm, fun h' tk a b => wpAny_pure (hq h' tk a b)⟩) fun _ _ e => e))))
theorem pe_dispT {k v : Expr} {pos : Pos} {tk tv : TE} (hu : X.A.units + 65 < cLine) (hk : PE X k tk) (hv : PE X v tv) : PE X (.Dict [some k] [v] pos) (tDispT tk tv) := by
  refine ⟨fun pins s σ H Q I q => ?_⟩
  have hn := I.hok.fresh (Nat.le_refl s.heap.objs.size)
  have I1 := I.laid (a := s.heap.objs.size) (o := .dT []) (h' := s.heap.push { cls := .type "dict", data := .dict #[] }) (t' := s.toks) (fun _ _ q => Heap.get?_push_of_some _ q) (Nat.le_refl _) (dt_empty s.heap I.big)
  refine Dict_H (pairs := pairTrees [some k] [v] X.env pos) (show X.A.units < cLine by omega) (zip_pairTrees _ _ _ _ rfl rfl) (fun e => nomatch e) (by show 1 ≤ 15; decide)
    (pairTrees_cons_walk (thn (hk.run pins _ σ _ _ I1 (q _ hn)) fun u s1 ⟨x, H1, I2, rx, q1⟩ => thn (hv.run pins s1 σ H1 _ I2 q1) fun w2 s2 ⟨y, H2, I3, ry, e, b, kk, ex, hb, q2⟩ => pairTrees_nil_walk ?_))
  subst ex
  cases (show u = Value.ref b from rx)
  obtain ⟨z, hd, vs0, r0, dd⟩ := dt_of I3.hok e
  cases r0
  refine ⟨[(kk, b, w2)], ⟨rfl, rfl, key_of I3.hok hb, trivial⟩, dd, fun h' tk dd' hs => ?_⟩
  obtain ⟨q1, es, ep, hq1, h2, h3, h4, _, h5⟩ := dd'
  refine ⟨.ref s.heap.objs.size, _, d_write (t' := tk) (ob := .dT [(kk, y)]) I3 (by rw [e]; exact True.intro) hs ⟨q1, hq1⟩ ⟨by show 1 ≤ sizeLine; decide, hd, [(kk, b, w2)], .cons ⟨rfl, ?_, ry⟩ .nil, q1, es, ep, hq1, h2, h3, h4, h5⟩, rfl, q2⟩
  rw [upd_ne (ne_of hb e (fun z => nomatch z))]
  exact hb
end
end Ly
namespace Ly
open PySem L2 Evl PySem.Spec PyProof.Rows
theorem hv_of {A : Around} {k : Nat} (hr : Room k A) : A.units + 65 < cLine := by have := hr.un; omega
/-! ### x in xs, data -/
section
variable {X : Cx}
def rInT (K : PySem.W.Frag) : R2 := fun x y H Q => ∃ d ds, Dp K H x d ∧ Dp K H y (.tuple ds) ∧ SeqAt.shaped d = true ∧ SeqAt.shaped (.tuple ds) = true ∧ Q (.bl (ds.any fun z => PyData.eqv z d)) H
def rNotInT (K : PySem.W.Frag) : R2 := fun x y H Q => ∃ d ds, Dp K H x d ∧ Dp K H y (.tuple ds) ∧ SeqAt.shaped d = true ∧ SeqAt.shaped (.tuple ds) = true ∧ Q (.bl (!ds.any fun z => PyData.eqv z d)) H
theorem op_inT (hu : X.A.units + 65 < cLine) : OpR X (compareOp .In) (rInT X.K) := by
  intro pins s σ H x y v u Q I rx ry h
  obtain ⟨d, ds, hd, he, sd, se, q⟩ := h
  obtain ⟨as, r1⟩ := Dp.reads I d x v hd rx
  obtain ⟨bs, r2⟩ := Dp.reads I (.tuple ds) y u he ry
  exact SeqAt.in_tuple_reads r2 r1 (SeqAt.canLay_of_shaped se) (SeqAt.canLay_of_shaped sd) (room_in_shaped sd hu) ⟨.bl _, H, I, rfl, q⟩
theorem op_notInT (hu : X.A.units + 65 < cLine) : OpR X (compareOp .NotIn) (rNotInT X.K) := by
  intro pins s σ H x y v u Q I rx ry h
  obtain ⟨d, ds, hd, he, sd, se, q⟩ := h
  obtain ⟨as, r1⟩ := Dp.reads I d x v hd rx
  obtain ⟨bs, r2⟩ := Dp.reads I (.tuple ds) y u he ry
  exact SeqAt.notIn_tuple_reads r2 r1 (SeqAt.canLay_of_shaped se) (SeqAt.canLay_of_shaped sd) (room_in_shaped sd hu) ⟨.bl _, H, I, rfl, q⟩
def rInU (K : PySem.W.Frag) : R2 := fun x y H Q => rInD K x y H Q ∨ rInT K x y H Q
def rNotInU (K : PySem.W.Frag) : R2 := fun x y H Q => rNotInD K x y H Q ∨ rNotInT K x y H Q
theorem op_inU (hu : X.A.units + 65 < cLine) : OpR X (compareOp .In) (rInU X.K) := (op_inD hu).or (op_inT hu)
theorem op_notInU (hu : X.A.units + 65 < cLine) : OpR X (compareOp .NotIn) (rNotInU X.K) := (op_notInD hu).or (op_notInT hu)
end
section
variable {K : PySem.W.Frag} {x y z d : PyData} {xs ys ds : List PyData} {ρ : List E} {O : Own} {te ta tb td ty tv tk : TE} {G H : Hp} {v : V} {P : Out → Prop} {Z : E → Own → Prop}
def anyD (ds : List PyData) (d : PyData) : Bool := ds.any fun z => PyData.eqv z d
theorem in_lst (hx : SeqAt.shaped d = true) (hy : SeqAt.shaped (.list ds) = true) : RD (rInU K) d (.list ds) (.bool (anyD ds d)) := fun F G H vx vy w a b Q q => .inl ⟨d, ds, (w.da a).dp, (w.da b).dp, hx, hy, q _ G H (Ex.refl G) w (.bl _)⟩
theorem in_tup (hx : SeqAt.shaped d = true) (hy : SeqAt.shaped (.tuple ds) = true) : RD (rInU K) d (.tuple ds) (.bool (anyD ds d)) := fun F G H vx vy w a b Q q => .inr ⟨d, ds, (w.da a).dp, (w.da b).dp, hx, hy, q _ G H (Ex.refl G) w (.bl _)⟩
theorem nin_lst (hx : SeqAt.shaped d = true) (hy : SeqAt.shaped (.list ds) = true) : RD (rNotInU K) d (.list ds) (.bool (!anyD ds d)) := fun F G H vx vy w a b Q q => .inl ⟨d, ds, (w.da a).dp, (w.da b).dp, hx, hy, q _ G H (Ex.refl G) w (.bl _)⟩
theorem nin_tup (hx : SeqAt.shaped d = true) (hy : SeqAt.shaped (.tuple ds) = true) : RD (rNotInU K) d (.tuple ds) (.bool (!anyD ds d)) := fun F G H vx vy w a b Q q => .inr ⟨d, ds, (w.da a).dp, (w.da b).dp, hx, hy, q _ G H (Ex.refl G) w (.bl _)⟩
/-! ### a list turned round -/
theorem DaS.rev {G : Hp} {vs : List V} (s : DaS G vs ds) : DaS G vs.reverse ds.reverse := by
  induction ds generalizing vs with
  | nil => cases s; exact .nil
  | cons d ds ih =>
    cases s with
    | cons h t =>
      rw [List.reverse_cons, List.reverse_cons]
      exact (ih t).append (.cons h .nil)
theorem ev_revL (h : EvD te ρ O (.list ds)) : EvD (tRevL K te) ρ O (.list ds.reverse) := fun F G H σ w s Q q => h F G H σ w s _ fun v G1 H1 e1 w1 k1 => by
  obtain ⟨a, xs, rfl, ha, hs⟩ := k1.isLst
  refine ⟨a, xs, rfl, SqL.of (w1.sub _ _ ha), fun p hp => ?_⟩
  obtain ⟨e, w2⟩ := w1.new hp (.lst xs.reverse)
  exact q _ _ _ (e1.trans e) w2 (.lst upd_same (hs.rev.mono e))
/-! ### keys -/
def keyD : Key → PyData
  | .inl i => .int i
  | .inr s => .str s
theorem DaS.isKey : ∀ {k : List Key} {vs : List V}, DaS G vs (k.map keyD) → vs = k.map kV
  | [], _, h => by cases h; rfl
  | .inl i :: k, _, h => by
    cases h with
    | cons a s => rw [a.isInt, s.isKey]; rfl
  | .inr i :: k, _, h => by
    cases h with
    | cons a s => rw [a.isStr, s.isKey]; rfl
theorem DaS.ofKey : ∀ (k : List Key), DaS G (k.map kV) (k.map keyD)
  | [] => .nil
  | .inl i :: k => .cons (.int i) (DaS.ofKey k)
  | .inr i :: k => .cons (.str i) (DaS.ofKey k)
theorem Da.isKey {k : List Key} (h : Da G v (.tuple (k.map keyD))) : ∃ b, v = .ref b ∧ G b = some (.tup (k.map kV)) := by
  obtain ⟨a, xs, rfl, h1, h2⟩ := h.isTup
  exact ⟨a, rfl, by rw [h1, h2.isKey]⟩
theorem Wd.adopt {b : Addr} {vs : List V} (w : Wd O G H) (h : H b = some (.tup vs)) (hs : DaS G vs ds) : ∃ G', Ex G G' ∧ Wd O G' H ∧ Da G' (.ref b) (.tuple ds) := by
  cases hb : G b with
  | some o =>
    have e := w.sub _ _ hb
    rw [h] at e
    cases e
    exact ⟨G, Ex.refl G, w, .tup hb hs⟩
  | none =>
    have e : Ex G (upd G b (.tup vs)) := Ex.new hb
    refine ⟨_, e, ⟨fun c u q => ?_, fun q hq => ?_, w.nd⟩, .tup upd_same (hs.mono e)⟩
    · by_cases hc : c = b
      · subst hc
        rw [upd_same] at q
        rw [h, ← q]
      · rw [upd_ne hc] at q
        exact w.sub _ _ q
    · obtain ⟨u, h1, h2, h3⟩ := w.own q hq
      have hne : q.1 ≠ b := fun z => by
        rw [z, h] at h1
        cases h1
        obtain ⟨a, oo⟩ := q
        cases oo <;> first | exact h2.elim | exact h2.2 _ h2.1.symm
      exact ⟨u, h1, h2.mono e, by rw [upd_ne hne]; exact h3⟩
/-! ### dicts with tuple keys that are owned -/
abbrev TE2 := List Key × E
def putE (kvs : List TE2) (k : List Key) (v : E) : List TE2 :=
  if (kvs.any fun kv => decide (kv.1 = k)) = true then kvs.map (fun kv => if kv.1 = k then (kv.1, v) else kv) else kvs ++ [(k, v)]
def mergeE (kvs more : List TE2) : List TE2 := more.foldl (fun acc kv => putE acc kv.1 kv.2) kvs
def hasK (kvs : List TE2) (k : List Key) : Bool := kvs.any fun kv => decide (kv.1 = k)
abbrev OrT (G : Hp) (kvs : List (List Key × V)) (les : List TE2) : Prop := kvs.map (·.1) = les.map (·.1) ∧ ErS G (kvs.map (·.2)) (les.map (·.2))
theorem any_keys {α β : Type} {xs : List (List Key × α)} {ys : List (List Key × β)} (h : xs.map (·.1) = ys.map (·.1)) (k : List Key) : (xs.any fun kv => decide (kv.1 = k)) = ys.any fun kv => decide (kv.1 = k) := by
  have e1 : (xs.any fun kv => decide (kv.1 = k)) = (xs.map (·.1)).any fun x => decide (x = k) := by rw [List.any_map]; rfl
  have e2 : (ys.any fun kv => decide (kv.1 = k)) = (ys.map (·.1)).any fun x => decide (x = k) := by rw [List.any_map]; rfl
  rw [e1, e2, h]
theorem OrT.repl {k : List Key} {e : E} (h : Er G (some v) e) : ∀ {kvs : List (List Key × V)} {les : List TE2}, OrT G kvs les →
    OrT G (kvs.map fun kv => if kv.1 = k then (kv.1, v) else kv) (les.map fun kv => if kv.1 = k then (kv.1, e) else kv)
  | [], [], _ => ⟨rfl, .nil⟩
  | [], _ :: _, r => by cases r.1
  | _ :: _, [], r => by cases r.1
  | p :: ps, q :: qs, r => by
    obtain ⟨r1, r2⟩ := r
    rw [List.map_cons, List.map_cons] at r1
    obtain ⟨e1, e2⟩ := List.cons_eq_cons.mp r1
    rw [List.map_cons, List.map_cons] at r2
    cases r2 with
    | cons a b =>
      obtain ⟨i1, i2⟩ := OrT.repl (k := k) h (kvs := ps) (les := qs) ⟨e2, b⟩
      refine ⟨?_, ?_⟩
      · rw [List.map_cons, List.map_cons, List.map_cons, List.map_cons, i1]
        congr 1
        rw [e1]
        split <;> simp [e1]
      · rw [List.map_cons, List.map_cons, List.map_cons, List.map_cons]
        refine .cons ?_ i2
        rw [e1]
        split
        · exact h
        · exact a
theorem OrT.put {k : List Key} {e : E} {kvs : List (List Key × V)} {les : List TE2} (r : OrT G kvs les) (h : Er G (some v) e) : OrT G (putK kvs k v) (putE les k e) := by
  unfold putK putE
  rw [any_keys r.1 k]
  split
  · exact r.repl h
  · refine ⟨?_, ?_⟩
    · rw [List.map_append, List.map_append, r.1]
      rfl
    · rw [List.map_append, List.map_append]
      exact r.2.append (.cons h .nil)
theorem OrT.merge : ∀ {more : List (List Key × V)} {mes : List TE2} {kvs : List (List Key × V)} {les : List TE2}, OrT G more mes → OrT G kvs les → OrT G (mergeT kvs more) (mergeE les mes)
  | [], [], _, _, _, r => r
  | [], _ :: _, _, _, m, _ => by cases m.1
  | _ :: _, [], _, _, m, _ => by cases m.1
  | p :: ps, q :: qs, kvs, les, m, r => by
    obtain ⟨m1, m2⟩ := m
    rw [List.map_cons, List.map_cons] at m1
    obtain ⟨e1, e2⟩ := List.cons_eq_cons.mp m1
    rw [List.map_cons, List.map_cons] at m2
    cases m2 with
    | cons a b =>
      show OrT G (mergeT (putK kvs p.1 p.2) ps) (mergeE (putE les q.1 q.2) qs)
      rw [e1]
      exact OrT.merge ⟨e2, b⟩ (r.put a)
theorem OrT.has {k : List Key} {kvs : List (List Key × V)} {les : List TE2} (r : OrT G kvs les) : (valV kvs k).isSome = hasK les k := by
  unfold hasK
  rw [← any_keys r.1 k]
  unfold valV
  rw [Option.isSome_map, Bool.eq_iff_iff]
  simp [List.find?_isSome, List.any_eq_true]
theorem Or.dTE {o : HO} {les : List TE2} (h : Or G o (.dT les)) : ∃ kvs, o = .dT kvs ∧ OrT G kvs les := by
  cases o with
  | dT kvs => exact ⟨kvs, rfl, h⟩
  | _ => exact h.elim
theorem OrT.len {kvs : List (List Key × V)} {les : List TE2} (r : OrT G kvs les) : kvs.length = les.length := by
  have := congrArg List.length r.1
  rwa [List.length_map, List.length_map] at this
theorem ev_dnewT (k : ∀ p, Z (.r p) ((p, .dT []) :: O)) : Ev tDNewT ρ O Z := fun F G H σ w s Q q p hp => q _ G _ (.r p) _ (k p) (Ex.refl G) (w.newOwn hp (show Or G (.dT []) (.dT []) from ⟨rfl, .nil⟩)) rfl
theorem OF {i : Nat} {a : Addr} {oo : OO} {F : Own} (ho : O[i]? = some (a, oo)) : (O ++ F)[i]? = some (a, oo) := by
  rw [List.getElem?_append_left (List.getElem?_eq_some_iff.mp ho).1]
  exact ho
theorem ev_dinT {i : Nat} {a : Addr} {k : List Key} {les : List TE2} (ht : EvD ty ρ O (.tuple (k.map keyD))) (hd : EvR td ρ a) (ho : O[i]? = some (a, .dT les)) : EvD (tDIn ty td) ρ O (.bool (hasK les k)) := fun F G H σ w s Q q =>
  ht F G H σ w s _ fun v1 G1 H1 e1 w1 k1 => hd G1 H1 σ (s.mono e1) _ (by
    obtain ⟨o, h1, h2, _⟩ := w1.at (OF ho)
    obtain ⟨kvs, rfl, h3⟩ := h2.dTE
    obtain ⟨b, rfl, hb⟩ := k1.isKey
    refine ⟨a, _, rfl, DGet.t h1 (w1.sub _ _ hb), ?_⟩
    rw [h3.has]
    exact q _ G1 H1 e1 w1 (.bl _))
theorem ev_dninT {i : Nat} {a : Addr} {k : List Key} {les : List TE2} (ht : EvD ty ρ O (.tuple (k.map keyD))) (hd : EvR td ρ a) (ho : O[i]? = some (a, .dT les)) : EvD (tDNotIn ty td) ρ O (.bool (!hasK les k)) := fun F G H σ w s Q q =>
  ht F G H σ w s _ fun v1 G1 H1 e1 w1 k1 => hd G1 H1 σ (s.mono e1) _ (by
    obtain ⟨o, h1, h2, _⟩ := w1.at (OF ho)
    obtain ⟨kvs, rfl, h3⟩ := h2.dTE
    obtain ⟨b, rfl, hb⟩ := k1.isKey
    refine ⟨a, _, rfl, DGet.t h1 (w1.sub _ _ hb), ?_⟩
    rw [h3.has]
    exact q _ G1 H1 e1 w1 (.bl _))
theorem Wd.setF {F : Own} {i : Nat} {a : Addr} {oo oo' : OO} (w : Wd (O ++ F) G H) (ho : O[i]? = some (a, oo)) {o' : HO} (k : Or G o' oo') : Wd (O.set i (a, oo') ++ F) G (upd H a o') := by
  have := w.set (OF ho) k
  rwa [List.set_append_left _ _ (List.getElem?_eq_some_iff.mp ho).1] at this
/-- d[k] = v -/
theorem sx_dputT {i : Nat} {a : Addr} {k : List Key} {les : List TE2} (hv : EvD tv ρ O d) (hd : EvR td ρ a) (ht : EvD ty ρ O (.tuple (k.map keyD))) (ho : O[i]? = some (a, .dT les)) (hl : les.length < 100000) (hP : P (.nx ρ (O.set i (a, .dT (putE les k (.d d)))))) :
    SX (sDPut td ty tv) ρ O P := fun F G H σ D w s q => hv F G H σ w s _ fun v1 G1 H1 e1 w1 k1 => hd G1 H1 σ (s.mono e1) _ (ht F G1 H1 σ w1 (s.mono e1) _ fun v2 G2 H2 e2 w2 k2 => by
  obtain ⟨o, h1, h2, _⟩ := w2.at (OF ho)
  obtain ⟨kvs, rfl, h3⟩ := h2.dTE
  obtain ⟨b, rfl, hb⟩ := k2.isKey
  refine ⟨a, _, rfl, DPut.t h1 (w2.sub _ _ hb) (sz_lt (by rw [h3.len]; exact hl)), q _ hP G2 _ σ (e1.trans e2) (w2.setF ho (o' := .dT (putK kvs k v1)) (h3.put (.of (k1.mono e2)))) ((s.mono e1).mono e2)⟩)
/-- dict(l), l pairs -/
abbrev pairD (p : List Key × PyData) : PyData := .tuple [.tuple (p.1.map keyD), p.2]
theorem pts_of : ∀ {ps : List (List Key × PyData)} {xs : List V}, DaS G xs (ps.map pairD) → Ex G H → ∃ pts : List PT, xs = pts.map (fun p => V.ref p.1) ∧ (∀ p ∈ pts, PtAt K H p) ∧ OrT G (pts.map fun p => p.2.2) (ps.map fun p => (p.1, .d p.2))
  | [], _, h, _ => by cases h; exact ⟨[], rfl, fun p hp => (by cases hp), rfl, .nil⟩
  | p :: ps, _, h, x => by
    rw [List.map_cons] at h
    cases h with
    | cons a s =>
      obtain ⟨pts, rfl, h2, h3⟩ := pts_of s x
      obtain ⟨b, ys, rfl, hb, hs⟩ := a.isTup
      cases hs with
      | cons a1 s1 =>
        obtain ⟨v2, rfl, a2⟩ := s1.one
        obtain ⟨c, rfl, hc⟩ := a1.isKey
        refine ⟨(b, c, p.1, v2) :: pts, rfl, fun q hq => ?_, ?_, ?_⟩
        · rcases List.mem_cons.mp hq with rfl | hq
          · exact ⟨SqT.of (x _ _ hb), x _ _ hc⟩
          · exact h2 q hq
        · rw [List.map_cons, List.map_cons, List.map_cons, List.map_cons, h3.1]
        · rw [List.map_cons, List.map_cons, List.map_cons, List.map_cons]
          exact .cons (.of a2) h3.2
theorem ev_dictPT {ta : TA} {ps : List (List Key × PyData)} (h : EvA ta ρ O [.list (ps.map pairD)]) (k : ∀ q, Z (.r q) ((q, .dT (mergeE [] (ps.map fun p => (p.1, .d p.2)))) :: O)) : Ev (tCB (rDictPT K) ta) ρ O Z := fun F G H σ w s Q q =>
  h F G H σ w s _ fun vs G1 H1 e1 w1 k1 => by
    obtain ⟨v, rfl, k2⟩ := k1.one
    obtain ⟨a, xs, rfl, ha, hs⟩ := k2.isLst
    obtain ⟨pts, rfl, h2, h3⟩ := pts_of (K := K) hs w1.sub
    exact ⟨a, pts, rfl, SqL.of (w1.sub _ _ ha), h2, fun p hp => q _ G1 _ (.r p) _ (k p) e1 (w1.newOwn hp (show Or G1 (.dT _) (.dT _) from OrT.merge h3 ⟨rfl, .nil⟩)) rfl⟩
/-- its keys, in order -/
def keysD (les : List TE2) : List PyData := les.map fun kv => .tuple (kv.1.map keyD)
theorem Wd.adopts : ∀ {kvs : List (List Key × V)} {bs : List Addr} {G : Hp}, Wd O G H → IsKeys H kvs bs → ∃ G', Ex G G' ∧ Wd O G' H ∧ DaS G' (bs.map V.ref) (kvs.map fun kv => .tuple (kv.1.map keyD))
  | [], [], G, w, _ => ⟨G, Ex.refl G, w, .nil⟩
  | [], _ :: _, _, _, h => by cases h
  | _ :: _, [], _, _, h => by cases h
  | kv :: kvs, b :: bs, G, w, h => by
    cases h with
    | cons h1 h2 =>
      obtain ⟨G1, e1, w1, k1⟩ := w.adopt h1 (DaS.ofKey kv.1)
      obtain ⟨G2, e2, w2, k2⟩ := w1.adopts h2
      exact ⟨G2, e1.trans e2, w2, .cons (k1.mono e2) k2⟩
theorem keysD_of {kvs : List (List Key × V)} {les : List TE2} (r : kvs.map (·.1) = les.map (·.1)) : (kvs.map fun kv => PyData.tuple (kv.1.map keyD)) = keysD les := by
  have := congrArg (List.map fun k : List Key => PyData.tuple (k.map keyD)) r
  rw [List.map_map, List.map_map] at this
  exact this
theorem ev_tupDT {i : Nat} {a : Addr} {les : List TE2} (hd : EvR td ρ a) (ho : O[i]? = some (a, .dT les)) : EvD (tCB rTupDT (tCons td tNil)) ρ O (.tuple (keysD les)) := fun F G H σ w s Q q => hd G H σ s _ (by
  obtain ⟨o, h1, h2, _⟩ := w.at (OF ho)
  obtain ⟨kvs, rfl, h3⟩ := h2.dTE
  refine ⟨a, kvs, rfl, .of h1, fun p bs hp hk => ?_⟩
  obtain ⟨G1, e1, w1, k1⟩ := w.adopts hk
  obtain ⟨e2, w2⟩ := w1.new hp (.tup (bs.map V.ref))
  rw [keysD_of h3.1] at k1
  exact q _ _ _ (e1.trans e2) w2 (.tup upd_same (k1.mono e2)))
def rListDT : List V → Hp → VK → Prop := fun xs H Q => ∃ d kvs, xs = [V.ref d] ∧ Rd H d (.dT kvs) ∧ ∀ p bs, H p = none → IsKeys H kvs bs → Q (.ref p) (upd H p (.lst (bs.map V.ref)))
theorem call_listDT {X : Cx} (hc : X.calm = true) : CallR X (.type "list") rListDT := call_list_dT hc
theorem ev_listDT {i : Nat} {a : Addr} {les : List TE2} (hd : EvR td ρ a) (ho : O[i]? = some (a, .dT les)) : EvD (tCB rListDT (tCons td tNil)) ρ O (.list (keysD les)) := fun F G H σ w s Q q => hd G H σ s _ (by
  obtain ⟨o, h1, h2, _⟩ := w.at (OF ho)
  obtain ⟨kvs, rfl, h3⟩ := h2.dTE
  refine ⟨a, kvs, rfl, .of h1, fun p bs hp hk => ?_⟩
  obtain ⟨G1, e1, w1, k1⟩ := w.adopts hk
  obtain ⟨e2, w2⟩ := w1.new hp (.lst (bs.map V.ref))
  rw [keysD_of h3.1] at k1
  exact q _ _ _ (e1.trans e2) w2 (.lst upd_same (k1.mono e2)))
/-- a walk of its keys while it is locked -/
theorem ei_keysT {j : Nat} {a : Addr} {od : Obj} {kvs : List (List Key × V)} (h : ρ[j]? = some (.f a (.frz od (.dT kvs)))) : EvI (iKeys (tVar j)) ρ O (kvs.map fun kv => .tuple (kv.1.map keyD)) := fun F G H σ w s R q => by
  obtain ⟨ov, h1, rfl, h2⟩ := s.get h
  refine ⟨_, h1, a, od, rfl, .inr ⟨kvs, w.sub _ _ h2, q _ G H (Ex.refl G) w ⟨fun i H' x hi => ?_, fun H' x => ?_, fun i H' x H'' F' G1 x1 w1 hi y => ?_⟩⟩⟩
  · rw [List.length_map] at hi
    exact ⟨x _ _ h2, hi⟩
  · exact ⟨x _ _ h2, by rw [List.length_map]; exact Nat.le_refl _⟩
  · obtain ⟨rfl, k, v, b, h3, rfl, h4⟩ := y
    obtain ⟨G2, e2, w2, k2⟩ := w1.adopt h4 (DaS.ofKey k)
    exact ⟨G2, _, by rw [List.getElem?_map, h3]; rfl, e2, w2, k2⟩
mutual
theorem Da.less {G G' : Hp} {a : Addr} {od : Obj} {u : HO} (h : G a = some (.frz od u)) (hg : ∀ b, b ≠ a → G' b = G b) : ∀ {v : V} {d : PyData}, Da G v d → Da G' v d
  | _, _, .non => .non
  | _, _, .bl b => .bl b
  | _, _, .int i => .int i
  | _, _, .str x => .str x
  | _, _, .lst h1 s => .lst (by rw [hg _ (fun z => by rw [z, h] at h1; cases h1)]; exact h1) (DaS.less h hg s)
  | _, _, .tup h1 s => .tup (by rw [hg _ (fun z => by rw [z, h] at h1; cases h1)]; exact h1) (DaS.less h hg s)
theorem DaS.less {G G' : Hp} {a : Addr} {od : Obj} {u : HO} (h : G a = some (.frz od u)) (hg : ∀ b, b ≠ a → G' b = G b) : ∀ {vs : List V} {ds : List PyData}, DaS G vs ds → DaS G' vs ds
  | _, _, .nil => .nil
  | _, _, .cons h1 s => .cons (Da.less h hg h1) (DaS.less h hg s)
end
theorem orRaw {u : HO} (h : ∀ xs, u ≠ .tup xs) : Or G u (.raw u) := by cases u <;> exact ⟨rfl, h⟩
theorem Or.isRaw {o u : HO} (h : Or G o (.raw u)) : o = u := by cases o <;> exact h.1
theorem Or.noTup {o : HO} {oo : OO} (h : Or G o oo) : ∀ xs, o ≠ .tup xs := fun xs e => by
  subst e
  cases oo with
  | raw u => exact (show V.non = V.non → False from fun _ => (show HO.tup xs = u ∧ ∀ xs, u ≠ .tup xs from h).2 _ (show HO.tup xs = u ∧ ∀ xs, u ≠ .tup xs from h).1.symm) rfl
  | _ => exact h.elim
/-- an expression over a dict that is owned, locked while it is read -/
theorem ev_lockT {i j : Nat} {a : Addr} {les : List TE2} (hj : ρ[j]? = some (.r a)) (ho : O[i]? = some (a, .dT les)) (h : ∀ od kvs, kvs.map (·.1) = les.map (·.1) → EvD te (ρ.set j (.f a (.frz od (.dT kvs)))) [] d) : EvD (tLockE te) ρ O d := fun F G H σ w s Q q => by
  obtain ⟨o, h1, h2, h3⟩ := w.at (OF (F := F) ho)
  obtain ⟨kvs, rfl, h4⟩ := h2.dTE
  refine ⟨a, .dT kvs, h1, True.intro, fun od => ?_⟩
  have e1 : Ex G (upd G a (.frz od (.dT kvs))) := Ex.new h3
  -- the rest, as it stands
  have hrest : ∀ p ∈ O ++ F, p.1 ≠ a → ∃ u, H p.1 = some u ∧ Or G u p.2 ∧ G p.1 = none := fun p hp _ => w.own p hp
  let ra : Own := ((O ++ F).filter fun p => decide (p.1 ≠ a)).map fun p => (p.1, .raw ((H p.1).getD (.lst [])))
  have hra : ∀ p ∈ ra, p.1 ≠ a ∧ ∃ u, H p.1 = some u ∧ p.2 = .raw u ∧ (∀ xs, u ≠ .tup xs) ∧ G p.1 = none := fun p hp => by
    obtain ⟨p0, hp0, rfl⟩ := List.mem_map.mp hp
    obtain ⟨m1, m2⟩ := List.mem_filter.mp hp0
    have m3 : p0.1 ≠ a := by simpa using m2
    obtain ⟨u, u1, u2, u3⟩ := hrest p0 m1 m3
    exact ⟨m3, u, u1, by rw [u1]; rfl, u2.noTup, u3⟩
  have w1 : Wd ([] ++ ra) (upd G a (.frz od (.dT kvs))) (upd H a (.frz od (.dT kvs))) := by
    refine ⟨fun b u z => ?_, fun p hp => ?_, ?_⟩
    · by_cases hb : b = a
      · subst hb
        rw [upd_same] at z ⊢
        exact z
      · rw [upd_ne hb] at z ⊢
        exact w.sub _ _ z
    · obtain ⟨m, u, u1, u2, u3, u4⟩ := hra p hp
      exact ⟨u, by rw [upd_ne m]; exact u1, by rw [u2]; exact orRaw u3, by rw [upd_ne m]; exact u4⟩
    · show (ra.map (·.1)).Nodup
      have : ra.map (·.1) = (((O ++ F).filter fun p => decide (p.1 ≠ a)).map (·.1)) := by
        show List.map (fun p => p.1) (List.map (fun p : Addr × OO => (p.1, OO.raw ((H p.1).getD (.lst [])))) ((O ++ F).filter fun p => decide (p.1 ≠ a))) = _
        rw [List.map_map]
        rfl
      rw [this]
      exact (List.filter_sublist.map _).nodup w.nd
  have s1 : Sl (upd G a (.frz od (.dT kvs))) σ (ρ.set j (.f a (.frz od (.dT kvs)))) := (s.mono e1).slot hj fun ov z => ⟨z, upd_same⟩
  refine h od kvs h4.1 ra _ _ σ w1 s1 _ fun v G2 H2 e2 w2 k2 => ?_
  have ga : G2 a = some (.frz od (.dT kvs)) := e2 _ _ upd_same
  refine ⟨w2.sub _ _ ga, ?_⟩
  have x3 : Ex G (fun b => if b = a then none else G2 b) := fun b u z => by
    have hb : b ≠ a := ne_of_none z h3
    show (if b = a then none else G2 b) = some u
    rw [if_neg hb]
    exact e2 _ _ (e1 _ _ z)
  refine q v (fun b => if b = a then none else G2 b) _ x3 ⟨fun b u z => ?_, fun p hp => ?_, w.nd⟩ (k2.less ga fun b hb => if_neg hb)
  · by_cases hb : b = a
    · rw [if_pos hb] at z
      cases z
    · rw [if_neg hb] at z
      rw [upd_ne hb]
      exact w2.sub _ _ z
  · by_cases hb : p.1 = a
    · obtain ⟨u, u1, u2, u3⟩ := w.own p hp
      refine ⟨.dT kvs, by rw [hb, upd_same], ?_, if_pos hb⟩
      rw [hb, h1] at u1
      cases u1
      exact u2.mono x3
    · obtain ⟨u, u1, u2, u3⟩ := w.own p hp
      have hm : (p.1, OO.raw u) ∈ ra := List.mem_map.mpr ⟨p, List.mem_filter.mpr ⟨hp, by simpa using hb⟩, by rw [u1]; rfl⟩
      obtain ⟨u', v1, v2, v3⟩ := w2.own _ hm
      have e : u' = u := Or.isRaw v2
      subst e
      exact ⟨u', by rw [upd_ne hb]; exact v1, u2.mono x3, by show (if p.1 = a then none else G2 p.1) = none; rw [if_neg hb]; exact v3⟩
/-- {k: v}, k a tuple -/
theorem ev_dispT {k : List Key} (hk : ∀ p, EvD tk ρ ((p, .dT []) :: O) (.tuple (k.map keyD))) (hv : ∀ p, EvD tv ρ ((p, .dT []) :: O) d) (hz : ∀ p, Z (.r p) ((p, .dT [(k, .d d)]) :: O)) : Ev (tDispT tk tv) ρ O Z := fun F G H σ w s Q q p hp =>
  hk p F G _ σ (w.newOwn hp (show Or G (.dT []) (.dT []) from ⟨rfl, .nil⟩)) s _ fun v1 G1 H1 e1 w1 k1 => hv p F G1 H1 σ w1 (s.mono e1) _ fun v2 G2 H2 e2 w2 k2 => by
    obtain ⟨o, h1, h2, _⟩ := w2.own _ List.mem_cons_self
    obtain ⟨kvs, rfl, h3⟩ := h2.dTE
    obtain ⟨b, rfl, hb⟩ := (k1.mono e2).isKey
    have e : kvs = [] := by
      have := h3.len
      exact List.eq_nil_of_length_eq_zero this
    subst e
    exact ⟨h1, b, k, rfl, w2.sub _ _ hb, q _ G2 _ (.r p) _ (hz p) (e1.trans e2) (w2.set (i := 0) (oo' := .dT [(k, .d d)]) rfl (show Or G2 (.dT [(k, v2)]) (.dT [(k, .d d)]) from ⟨rfl, .cons (.of k2) .nil⟩)) rfl⟩
/-- d.update(d2), d2 new -/
theorem sx_updT {i : Nat} {a : Addr} {les : List TE2} (hd : EvR td ρ a) (ho : O[i]? = some (a, .dT les)) (hl : les.length ≤ 100000) (h : Ev te ρ O (fun r O1 => ∃ p more, r = .r p ∧ O1 = (p, .dT more) :: O ∧ more.length ≤ 1 ∧ P (.nx ρ (O.set i (a, .dT (mergeE les more)))))) :
    SX (tDrop (tBM K "dict" rUpdT td (tCons te tNil))) ρ O P := fun F G H σ D w s q => hd G H σ s _ (by
  obtain ⟨o, h1, h2, _⟩ := w.at (OF (F := F) ho)
  obtain ⟨kvs, rfl, h3⟩ := h2.dTE
  refine ⟨.inr (.inr (.inl ⟨rfl, .inr ⟨kvs, h1⟩⟩)), h F G H σ w s _ fun v G1 H1 r O1 z e1 w1 k1 => ?_⟩
  obtain ⟨p, more, rfl, rfl, hm, hP⟩ := z
  cases k1
  obtain ⟨o, g1, g2, _⟩ := w1.own _ List.mem_cons_self
  obtain ⟨mvs, rfl, g3⟩ := g2.dTE
  have w2 : Wd (O ++ F) G1 H1 := ⟨w1.sub, fun q hq => w1.own q (List.mem_cons_of_mem _ hq), (List.nodup_cons.mp w1.nd).2⟩
  obtain ⟨o, h1, h2, _⟩ := w2.at (OF (F := F) ho)
  obtain ⟨kvs, rfl, h3⟩ := h2.dTE
  have hne : a ≠ p := fun z => (List.nodup_cons.mp w1.nd).1 (by
    show p ∈ List.map (·.1) (O ++ F)
    rw [← z]
    exact List.mem_map.mpr ⟨(a, .dT les), List.mem_append.mpr (.inl (List.mem_of_getElem? ho)), rfl⟩)
  have hb : (100001 : Nat) ≤ sizeLine := by decide
  exact ⟨a, p, kvs, mvs, rfl, rfl, hne, h1, g1, by rw [g3.len]; exact hm, by rw [h3.len]; omega, q _ hP G1 _ σ e1 (w2.setF ho (OrT.merge g3 h3)) (s.mono e1)⟩)
/-- some cells are let go -/
theorem ev_less (h : Ev te ρ O (fun r O1 => ∃ C O2, O1 = C ++ O2 ∧ Z r O2)) : Ev te ρ O Z := fun F G H σ w s Q q => h F G H σ w s Q fun v G' H' r O1 z e w' k => by
  obtain ⟨C, O2, rfl, z⟩ := z
  rw [List.append_assoc] at w'
  exact q v G' H' r O2 z e w'.drop k
theorem hasK_put {kvs : List TE2} {k k' : List Key} {v : E} : hasK (putE kvs k v) k' = (hasK kvs k' || decide (k = k')) := by
  unfold hasK putE
  split
  · rename_i h
    rw [List.any_map]
    have e : ((fun kv : TE2 => decide (kv.1 = k')) ∘ fun kv : TE2 => if kv.1 = k then (kv.1, v) else kv) = fun kv : TE2 => decide (kv.1 = k') := by
      funext kv
      show decide ((if kv.1 = k then (kv.1, v) else kv).1 = k') = _
      split <;> rfl
    rw [e]
    by_cases hk : k = k'
    · subst hk
      rw [h]
      rfl
    · rw [decide_eq_false hk, Bool.or_false]
  · rw [List.any_append]
    simp
theorem hasK_merge {k' : List Key} : ∀ {more kvs : List TE2}, hasK (mergeE kvs more) k' = (hasK kvs k' || more.any fun kv => decide (kv.1 = k'))
  | [], kvs => by simp [mergeE]
  | p :: r, kvs => by
    show hasK (mergeE (putE kvs p.1 p.2) r) k' = _
    rw [hasK_merge, hasK_put, List.any_cons, Bool.or_assoc]
theorem keys_put {kvs : List TE2} {k : List Key} {v : E} : (putE kvs k v).map (·.1) = if hasK kvs k = true then kvs.map (·.1) else kvs.map (·.1) ++ [k] := by
  unfold hasK putE
  split
  · rw [List.map_map]
    apply List.map_congr_left
    intro kv _
    show (if kv.1 = k then (kv.1, v) else kv).1 = kv.1
    split <;> rfl
  · rw [List.map_append]
    rfl
theorem hasK_keys {kvs : List TE2} {k : List Key} : hasK kvs k = true ↔ k ∈ kvs.map (·.1) := by
  unfold hasK
  simp [List.any_eq_true]
/-- a slice from a place that is told while what is owned changes -/
theorem ev_slL {rr : V → Option Int → Option Int → Hp → VK → Prop} {tlo : TE} (h : EvD te ρ O x) (hl : Ev tlo ρ O (fun r O1 => ∃ i z, r = .d (.int i) ∧ RS rr x (some i) none z ∧ Z (.d z) O1)) : Ev (tSl rr te (tPart tlo) tNoPart) ρ O Z := fun F G H σ w s Q q =>
  h F G H σ w s _ fun v1 G1 H1 e1 w1 k1 => hl F G1 H1 σ w1 (s.mono e1) _ fun v2 G2 H2 r O1 zz e2 w2 k2 => by
    obtain ⟨i, z, rfl, hr, hz⟩ := zz
    exact ⟨i, k2.dat.isInt, hr (O1 ++ F) G2 H2 v1 w2 (k1.mono e2) Q fun v G' H' e w' k => q v G' H' _ O1 hz ((e1.trans e2).trans e) w' (.of k)⟩
end
end Ly
namespace Ly
open PySem L2 Evl PySem.Spec PyProof.Rows
/-! ### dicts with numbers or texts as keys that are owned -/
abbrev KE2 := Key × E
def putF (kvs : List KE2) (k : Key) (v : E) : List KE2 :=
  if (kvs.any fun kv => decide (kv.1 = k)) = true then kvs.map (fun kv => if kv.1 = k then (kv.1, v) else kv) else kvs ++ [(k, v)]
def mergeF (kvs more : List KE2) : List KE2 := more.foldl (fun acc kv => putF acc kv.1 kv.2) kvs
def hasF (kvs : List KE2) (k : Key) : Bool := kvs.any fun kv => decide (kv.1 = k)
def getF (kvs : List KE2) (k : Key) : Option E := (kvs.find? fun kv => decide (kv.1 = k)).map (·.2)
abbrev OrK (G : Hp) (kvs : List (Key × V)) (les : List KE2) : Prop := kvs.map (·.1) = les.map (·.1) ∧ ErS G (kvs.map (·.2)) (les.map (·.2))
section
variable {K : PySem.W.Frag} {x y z d : PyData} {xs ys ds : List PyData} {ρ : List E} {O : Own} {te ta tb td ty tv tk : TE} {G H : Hp} {v : V} {P : Out → Prop} {Z : E → Own → Prop}
theorem any_keysK {α β : Type} {xs : List (Key × α)} {ys : List (Key × β)} (h : xs.map (·.1) = ys.map (·.1)) (k : Key) : (xs.any fun kv => decide (kv.1 = k)) = ys.any fun kv => decide (kv.1 = k) := by
  have e1 : (xs.any fun kv => decide (kv.1 = k)) = (xs.map (·.1)).any fun x => decide (x = k) := by rw [List.any_map]; rfl
  have e2 : (ys.any fun kv => decide (kv.1 = k)) = (ys.map (·.1)).any fun x => decide (x = k) := by rw [List.any_map]; rfl
  rw [e1, e2, h]
theorem OrK.repl {k : Key} {e : E} (h : Er G (some v) e) : ∀ {kvs : List (Key × V)} {les : List KE2}, OrK G kvs les →
    OrK G (kvs.map fun kv => if kv.1 = k then (kv.1, v) else kv) (les.map fun kv => if kv.1 = k then (kv.1, e) else kv)
  | [], [], _ => ⟨rfl, .nil⟩
  | [], _ :: _, r => by cases r.1
  | _ :: _, [], r => by cases r.1
  | p :: ps, q :: qs, r => by
    obtain ⟨r1, r2⟩ := r
    rw [List.map_cons, List.map_cons] at r1
    obtain ⟨e1, e2⟩ := List.cons_eq_cons.mp r1
    rw [List.map_cons, List.map_cons] at r2
    cases r2 with
    | cons a b =>
      obtain ⟨i1, i2⟩ := OrK.repl (k := k) h (kvs := ps) (les := qs) ⟨e2, b⟩
      refine ⟨?_, ?_⟩
      · rw [List.map_cons, List.map_cons, List.map_cons, List.map_cons, i1]
        congr 1
        rw [e1]
        split <;> simp [e1]
      · rw [List.map_cons, List.map_cons, List.map_cons, List.map_cons]
        refine .cons ?_ i2
        rw [e1]
        split
        · exact h
        · exact a
theorem OrK.put {k : Key} {e : E} {kvs : List (Key × V)} {les : List KE2} (r : OrK G kvs les) (h : Er G (some v) e) : OrK G (putK kvs k v) (putF les k e) := by
  unfold putK putF
  rw [any_keysK r.1 k]
  split
  · exact r.repl h
  · refine ⟨?_, ?_⟩
    · rw [List.map_append, List.map_append, r.1]
      rfl
    · rw [List.map_append, List.map_append]
      exact r.2.append (.cons h .nil)
theorem OrK.merge : ∀ {more : List (Key × V)} {mes : List KE2} {kvs : List (Key × V)} {les : List KE2}, OrK G more mes → OrK G kvs les → OrK G (mergeK kvs more) (mergeF les mes)
  | [], [], _, _, _, r => r
  | [], _ :: _, _, _, m, _ => by cases m.1
  | _ :: _, [], _, _, m, _ => by cases m.1
  | p :: ps, q :: qs, kvs, les, m, r => by
    obtain ⟨m1, m2⟩ := m
    rw [List.map_cons, List.map_cons] at m1
    obtain ⟨e1, e2⟩ := List.cons_eq_cons.mp m1
    rw [List.map_cons, List.map_cons] at m2
    cases m2 with
    | cons a b =>
      show OrK G (mergeK (putK kvs p.1 p.2) ps) (mergeF (putF les q.1 q.2) qs)
      rw [e1]
      exact OrK.merge ⟨e2, b⟩ (r.put a)
theorem OrK.has {k : Key} {kvs : List (Key × V)} {les : List KE2} (r : OrK G kvs les) : (valV kvs k).isSome = hasF les k := by
  unfold hasF
  rw [← any_keysK r.1 k]
  unfold valV
  rw [Option.isSome_map, Bool.eq_iff_iff]
  simp [List.find?_isSome, List.any_eq_true]
theorem OrK.get {k : Key} {e : E} : ∀ {kvs : List (Key × V)} {les : List KE2}, OrK G kvs les → getF les k = some e → ∃ u, valV kvs k = some u ∧ Er G (some u) e
  | [], [], _, h => by cases h
  | [], _ :: _, r, _ => by cases r.1
  | _ :: _, [], r, _ => by cases r.1
  | p :: ps, q :: qs, r, h => by
    obtain ⟨r1, r2⟩ := r
    rw [List.map_cons, List.map_cons] at r1
    obtain ⟨e1, e2⟩ := List.cons_eq_cons.mp r1
    rw [List.map_cons, List.map_cons] at r2
    cases r2 with
    | cons a b =>
      by_cases hk : q.1 = k
      · have : getF (q :: qs) k = some q.2 := by simp [getF, List.find?_cons, hk]
        rw [this] at h
        cases h
        exact ⟨p.2, valV_pos (e1.trans hk), a⟩
      · have : getF (q :: qs) k = getF qs k := by simp [getF, List.find?_cons, hk]
        rw [this] at h
        obtain ⟨u, h1, h2⟩ := OrK.get (kvs := ps) (les := qs) ⟨e2, b⟩ h
        exact ⟨u, by rw [valV_neg (by rw [e1]; exact hk)]; exact h1, h2⟩
theorem OrK.none {k : Key} {kvs : List (Key × V)} {les : List KE2} (r : OrK G kvs les) (h : getF les k = Option.none) : valV kvs k = Option.none := by
  have := r.has (k := k)
  have h2 : hasF les k = false := by
    cases e : hasF les k with
    | false => rfl
    | true =>
      unfold hasF at e
      unfold getF at h
      rw [Option.map_eq_none_iff, List.find?_eq_none] at h
      obtain ⟨x, h1, h2⟩ := List.any_eq_true.mp e
      exact absurd h2 (h x h1)
  rw [h2] at this
  cases e : valV kvs k with
  | none => rfl
  | some u => rw [e] at this; cases this
theorem Or.dKE {o : HO} {les : List KE2} (h : Or G o (.dK les)) : ∃ kvs, o = .dK kvs ∧ OrK G kvs les := by
  cases o with
  | dK kvs => exact ⟨kvs, rfl, h⟩
  | _ => exact h.elim
theorem OrK.len {kvs : List (Key × V)} {les : List KE2} (r : OrK G kvs les) : kvs.length = les.length := by
  have := congrArg List.length r.1
  rwa [List.length_map, List.length_map] at this
theorem Da.isKey1 {k : Key} (h : Da G v (keyD k)) : v = kV k := by
  cases k with
  | inl i => exact h.isInt
  | inr s => exact h.isStr
theorem Da.ofKey1 (k : Key) : Da G (kV k) (keyD k) := by
  cases k with
  | inl i => exact .int i
  | inr s => exact .str s
theorem ev_dnewK (k : ∀ p, Z (.r p) ((p, .dK []) :: O)) : Ev tDNewK ρ O Z := fun F G H σ w s Q q p hp => q _ G _ (.r p) _ (k p) (Ex.refl G) (w.newOwn hp (show Or G (.dK []) (.dK []) from ⟨rfl, .nil⟩)) rfl
theorem ev_dinK {i : Nat} {a : Addr} {k : Key} {les : List KE2} (ht : EvD ty ρ O (keyD k)) (hd : EvR td ρ a) (ho : O[i]? = some (a, .dK les)) : EvD (tDIn ty td) ρ O (.bool (hasF les k)) := fun F G H σ w s Q q =>
  ht F G H σ w s _ fun v1 G1 H1 e1 w1 k1 => hd G1 H1 σ (s.mono e1) _ (by
    obtain ⟨o, h1, h2, _⟩ := w1.at (OF ho)
    obtain ⟨kvs, rfl, h3⟩ := h2.dKE
    rw [k1.isKey1]
    refine ⟨a, _, rfl, DGet.k h1, ?_⟩
    rw [h3.has]
    exact q _ G1 H1 e1 w1 (.bl _))
theorem ev_dninK {i : Nat} {a : Addr} {k : Key} {les : List KE2} (ht : EvD ty ρ O (keyD k)) (hd : EvR td ρ a) (ho : O[i]? = some (a, .dK les)) : EvD (tDNotIn ty td) ρ O (.bool (!hasF les k)) := fun F G H σ w s Q q =>
  ht F G H σ w s _ fun v1 G1 H1 e1 w1 k1 => hd G1 H1 σ (s.mono e1) _ (by
    obtain ⟨o, h1, h2, _⟩ := w1.at (OF ho)
    obtain ⟨kvs, rfl, h3⟩ := h2.dKE
    rw [k1.isKey1]
    refine ⟨a, _, rfl, DGet.k h1, ?_⟩
    rw [h3.has]
    exact q _ G1 H1 e1 w1 (.bl _))
/-- d[k] -/
theorem ev_dgetK {i : Nat} {a : Addr} {k : Key} {les : List KE2} (hd : EvR td ρ a) (ht : EvD ty ρ O (keyD k)) (ho : O[i]? = some (a, .dK les)) (hg : getF les k = some (.d d)) : EvD (tDGet td ty) ρ O d := fun F G H σ w s Q q =>
  hd G H σ s _ (ht F G H σ w s _ fun v1 G1 H1 e1 w1 k1 => by
    obtain ⟨o, h1, h2, _⟩ := w1.at (OF ho)
    obtain ⟨kvs, rfl, h3⟩ := h2.dKE
    obtain ⟨u, g1, g2⟩ := h3.get hg
    rw [k1.isKey1]
    refine ⟨a, u, rfl, ?_, q u G1 H1 e1 w1 g2.dat⟩
    rw [← g1]
    exact DGet.k h1)
/-- d[k] = v -/
theorem sx_dputK {i : Nat} {a : Addr} {k : Key} {les : List KE2} (hv : EvD tv ρ O d) (hd : EvR td ρ a) (ht : EvD ty ρ O (keyD k)) (ho : O[i]? = some (a, .dK les)) (hl : les.length < 100000) (hP : P (.nx ρ (O.set i (a, .dK (putF les k (.d d)))))) :
    SX (sDPut td ty tv) ρ O P := fun F G H σ D w s q => hv F G H σ w s _ fun v1 G1 H1 e1 w1 k1 => hd G1 H1 σ (s.mono e1) _ (ht F G1 H1 σ w1 (s.mono e1) _ fun v2 G2 H2 e2 w2 k2 => by
  obtain ⟨o, h1, h2, _⟩ := w2.at (OF ho)
  obtain ⟨kvs, rfl, h3⟩ := h2.dKE
  rw [k2.isKey1]
  refine ⟨a, _, rfl, DPut.k h1 (sz_lt (by rw [h3.len]; exact hl)), q _ hP G2 _ σ (e1.trans e2) (w2.setF ho (o' := .dK (putK kvs k v1)) (h3.put (.of (k1.mono e2)))) ((s.mono e1).mono e2)⟩)
/-- {k: v} -/
theorem ev_dispK {k : Key} (hk : ∀ p, EvD tk ρ ((p, .dK []) :: O) (keyD k)) (hv : ∀ p, EvD tv ρ ((p, .dK []) :: O) d) (hz : ∀ p, Z (.r p) ((p, .dK [(k, .d d)]) :: O)) : Ev (tDisp [(tk, tv)]) ρ O Z := fun F G H σ w s Q q p hp =>
  hk p F G _ σ (w.newOwn hp (show Or G (.dK []) (.dK []) from ⟨rfl, .nil⟩)) s _ fun v1 G1 H1 e1 w1 k1 => hv p F G1 H1 σ w1 (s.mono e1) _ fun v2 G2 H2 e2 w2 k2 => by
    obtain ⟨o, h1, h2, _⟩ := w2.own _ List.mem_cons_self
    obtain ⟨kvs, rfl, h3⟩ := h2.dKE
    have e : kvs = [] := List.eq_nil_of_length_eq_zero h3.len
    subst e
    refine ⟨h1, [(k, v2)], by rw [k1.isKey1]; rfl, by show 1 ≤ 15; decide, q _ G2 _ (.r p) _ (hz p) (e1.trans e2) ?_ rfl⟩
    exact w2.set (i := 0) (oo' := .dK [(k, .d d)]) rfl (show Or G2 (.dK (mergeK [] [(k, v2)])) (.dK [(k, .d d)]) from ⟨rfl, .cons (.of k2) .nil⟩)
theorem hasF_put {kvs : List KE2} {k k' : Key} {v : E} : hasF (putF kvs k v) k' = (hasF kvs k' || decide (k = k')) := by
  unfold hasF putF
  split
  · rename_i h
    rw [List.any_map]
    have e : ((fun kv : KE2 => decide (kv.1 = k')) ∘ fun kv : KE2 => if kv.1 = k then (kv.1, v) else kv) = fun kv : KE2 => decide (kv.1 = k') := by
      funext kv
      show decide ((if kv.1 = k then (kv.1, v) else kv).1 = k') = _
      split <;> rfl
    rw [e]
    by_cases hk : k = k'
    · subst hk
      rw [h]
      rfl
    · rw [decide_eq_false hk, Bool.or_false]
  · rw [List.any_append]
    simp
theorem getF_put_same {kvs : List KE2} {k : Key} {v : E} : getF (putF kvs k v) k = some v := by
  unfold getF putF
  split
  · rename_i h
    induction kvs with
    | nil => cases h
    | cons p r ih =>
      rw [List.map_cons, List.find?_cons]
      by_cases hp : p.1 = k
      · simp [hp]
      · have h2 : (r.any fun kv => decide (kv.1 = k)) = true := by simpa [hp] using h
        simp only [hp, if_false, decide_false]
        exact ih h2
  · rename_i h
    rw [List.find?_append]
    have : (kvs.find? fun kv => decide (kv.1 = k)) = Option.none := by
      rw [List.find?_eq_none]
      intro x hx hk
      exact h (List.any_eq_true.mpr ⟨x, hx, hk⟩)
    rw [this]
    simp
theorem getF_put_other {kvs : List KE2} {k k' : Key} {v : E} (hk : k ≠ k') : getF (putF kvs k v) k' = getF kvs k' := by
  unfold getF putF
  split
  · rename_i h
    congr 1
    clear h
    induction kvs with
    | nil => rfl
    | cons p r ih =>
      rw [List.map_cons, List.find?_cons, List.find?_cons, ih]
      by_cases hp : p.1 = k
      · have : ¬ p.1 = k' := fun e => hk (hp.symm.trans e)
        simp [hp, hk]
      · simp [hp]
  · rw [List.find?_append]
    have : List.find? (fun kv : KE2 => decide (kv.1 = k')) [(k, v)] = Option.none := by simp [hk]
    rw [this]
    simp
theorem putF_len {kvs : List KE2} {k : Key} {v : E} : (putF kvs k v).length ≤ kvs.length + 1 := by
  unfold putF
  split
  · rw [List.length_map]
    omega
  · rw [List.length_append]
    simp
/-! ### range with a step -/
def rngC (lo c : Int) (n : Nat) : List PyData := (List.range n).map fun i => .int (lo + (i : Nat) * c)
theorem rngC_len (lo c : Int) (n : Nat) : (rngC lo c n).length = n := by unfold rngC; rw [List.length_map, List.length_range]
theorem rngC_get {lo c : Int} {n i : Nat} {d : PyData} (h : (rngC lo c n)[i]? = some d) : i < n ∧ d = .int (lo + (i : Nat) * c) := by
  unfold rngC at h
  rw [List.getElem?_map] at h
  by_cases hi : i < n
  · rw [List.getElem?_range hi] at h
    exact ⟨hi, (Option.some.inj h).symm⟩
  · rw [List.getElem?_eq_none (by rw [List.length_range]; omega)] at h
    cases h
theorem wd_rangeC {G : Hp} {lo c : Int} {n : Nat} : WalkD (Itc lo c n) G (rngC lo c n) := by
  refine ⟨fun i H x hi => by rw [rngC_len] at hi; exact hi, fun H x => by rw [rngC_len]; exact Nat.le_refl _, fun i H x H' F G1 x1 w hi y => ?_⟩
  obtain ⟨rfl, rfl⟩ := y
  rw [rngC_len] at hi
  exact ⟨G1, .int (lo + (i : Nat) * c), by unfold rngC; rw [List.getElem?_map, List.getElem?_range hi]; rfl, Ex.refl _, w, .int _⟩
theorem ei_rng3 {ta : TA} {i j c : Int} {n : Nat} (h : EvA ta ρ O [.int i, .int j, .int c]) (hr : RgC i j c n) : EvI (iRng3 ta) ρ O (rngC i c n) := fun F G H σ w s R q => h F G H σ w s _ fun v G1 H1 e1 w1 k1 => by
  cases k1 with
  | cons a k1 =>
    cases k1 with
    | cons b k1 =>
      obtain ⟨v, rfl, k⟩ := k1.one
      exact ⟨i, j, c, n, by rw [a.isInt, b.isInt, k.isInt], hr, q _ G1 H1 e1 w1 wd_rangeC⟩
/-! ### xs += ys -/
theorem ErS.appendD {G : Hp} {vs ws : List V} {es : List E} {ds : List PyData} (h : ErS G vs es) (s : DaS G ws ds) : ErS G (vs ++ ws) (es ++ ds.map E.d) := h.append (.of s)
/-! ### a comprehension of two fors, nothing changes -/
theorem take_flat {α β : Type} {p : α → Bool} {f : α → List β} {ds : List α} {i : Nat} {d : α} (h : ds[i]? = some d) : ((ds.take (i + 1)).filter p).flatMap f = ((ds.take i).filter p).flatMap f ++ (if p d = true then f d else []) := by
  rw [List.take_add_one, h]
  show (((ds.take i) ++ [d]).filter p).flatMap f = _
  rw [List.filter_append, List.flatMap_append]
  congr 1
  by_cases hp : p d = true
  · rw [if_pos hp, List.filter_cons, if_pos hp]
    simp
  · rw [if_neg hp, List.filter_cons, if_neg hp]
    rfl
theorem ev_lc2 {wi wi1 : TI} {g g1 : TG} {tt tt1 : TT} {vs vs1 : List Nat} (hi : EvI wi ρ O ds) (p : PyData → Bool) (f : PyData → List PyData) (q : PyData → PyData → Bool) (h : PyData → PyData → PyData)
    (hl : ((ds.filter p).flatMap fun d => ((f d).filter (q d)).map (h d)).length < 100000)
    (hs : ∀ (i : Nat) d, ds[i]? = some d → ∃ ρ2 js, EvG g (wipeE ρ vs) d ρ2 js ∧ (∀ j ∈ js, j ∈ vs) ∧ EvT tt ρ2 O (p d) ∧ (p d = true → EvI wi1 ρ2 O (f d) ∧
      ∀ (j : Nat) e, (f d)[j]? = some e → ∃ ρ3 js1, EvG g1 (wipeE ρ2 vs1) e ρ3 js1 ∧ (∀ j ∈ js1, j ∈ vs1) ∧ EvT tt1 ρ3 O (q d e) ∧ (q d e = true → EvD te ρ3 O (h d e)))) :
    EvD (tLc2 wi g tt wi1 g1 tt1 te vs vs1) ρ O (.list ((ds.filter p).flatMap fun d => ((f d).filter (q d)).map (h d))) := fun F G H σ w s Q qq => hi F G H σ w s _ fun J G1 H1 e1 w1 WK D hD => by
  have s1 := s.mono e1
  let R : Nat → List PyData := fun i => ((ds.take i).filter p).flatMap fun d => ((f d).filter (q d)).map (h d)
  have hR : ∀ i, (R i).length ≤ ((ds.filter p).flatMap fun d => ((f d).filter (q d)).map (h d)).length := fun i => by
    have e : ((ds.filter p).flatMap fun d => ((f d).filter (q d)).map (h d)) = R i ++ (((ds.drop i).filter p).flatMap fun d => ((f d).filter (q d)).map (h d)) := by
      show _ = _ ++ _
      rw [← List.flatMap_append, ← List.filter_append, List.take_append_drop]
    rw [e, List.length_append]
    omega
  let Pv : Nat → Hp → Prop := fun i H' => i ≤ ds.length ∧ ∃ G', Ex G1 G' ∧ Wd ((D, .lst ((R i).map E.d)) :: (O ++ F)) G' H'
  refine ⟨fun i m H' => m = ds.length - i ∧ Pv i H', ⟨ds.length, by simp, Nat.zero_le _, G1, Ex.refl _, w1.newOwn hD (show Or G1 (.lst []) (.lst []) from .nil)⟩, ?_⟩
  rintro i m H' ⟨rfl, hle, G', e2, w2⟩
  by_cases hlt : i < ds.length
  · refine .inr ⟨WK.goes i H' (e2.trans w2.sub) hlt, Pv (i + 1), fun H'' p => ⟨_, by omega, rfl, p⟩, fun x H'' y => ?_⟩
    obtain ⟨G3, d, hdd, e3, w3, kd⟩ := WK.yields i H' x H'' _ G' e2 w2 hlt y
    obtain ⟨ρ2, js, hg, hjs, ht, hn⟩ := hs i d hdd
    have hR1 : R (i + 1) = R i ++ (if p d = true then ((f d).filter (q d)).map (h d) else []) := take_flat (f := fun d => ((f d).filter (q d)).map (h d)) hdd
    have hRi := hR (i + 1)
    rw [hR1] at hRi
    refine hg _ G3 H'' _ x w3 (((s1.mono e2).mono e3).wipe vs) kd _ fun σ2 c s4 => ⟨c.wipe hjs, ?_⟩
    have pm : ((D, OO.lst ((R i).map E.d)) :: (O ++ F)).Perm (O ++ (F ++ [(D, OO.lst ((R i).map E.d))])) := by
      rw [← List.append_assoc]
      exact (List.perm_append_singleton _ _).symm
    refine ht _ G3 H'' σ2 (w3.perm pm) s4 _ fun G4 H4 e4 w4 => ?_
    have s5 := s4.mono e4
    cases hp : p d with
    | false =>
      rw [hp] at hR1
      refine iteF ⟨by omega, G4, (e2.trans e3).trans e4, ?_⟩
      rw [hR1]
      rw [if_neg Bool.false_ne_true, List.append_nil]
      exact w4.perm pm.symm
    | true =>
      rw [hp, if_pos rfl] at hR1
      rw [hp, if_pos rfl, List.length_append, List.length_map] at hRi
      obtain ⟨hi1, hs1⟩ := hn hp
      refine iteT (hi1 _ G4 H4 σ2 w4 s5 _ fun J1 G5 H5 e5 w5 WK1 => ?_)
      have s6 := s5.mono e5
      let S : Nat → List PyData := fun j => R i ++ (((f d).take j).filter (q d)).map (h d)
      let P1 : Nat → Hp → Prop := fun j H' => j ≤ (f d).length ∧ ∃ G', Ex G5 G' ∧ Wd ((D, .lst ((S j).map E.d)) :: (O ++ F)) G' H'
      have S0 : S 0 = R i := by
        show R i ++ _ = R i
        simp
      refine ⟨fun j k H' => k = (f d).length - j ∧ P1 j H', ⟨(f d).length, by simp, Nat.zero_le _, G5, Ex.refl _, by rw [S0]; exact w5.perm pm.symm⟩, ?_⟩
      rintro j k H6 ⟨rfl, hjle, G6, e6, w6⟩
      by_cases hjlt : j < (f d).length
      · refine .inr ⟨WK1.goes j H6 (e6.trans w6.sub) hjlt, P1 (j + 1), fun H7 p => ⟨_, by omega, rfl, p⟩, fun x1 H7 y1 => ?_⟩
        obtain ⟨G7, d1, hd1, e7, w7, kd1⟩ := WK1.yields j H6 x1 H7 _ G6 e6 w6 hjlt y1
        obtain ⟨ρ3, js1, hg1, hjs1, ht1, hn1⟩ := hs1 j d1 hd1
        have et : (f d).take (j + 1) = (f d).take j ++ [d1] := by rw [List.take_add_one, hd1]; rfl
        have hSl : (S j).length < 100000 := by
          show (R i ++ _).length < 100000
          rw [List.length_append, List.length_map]
          have : (((f d).take j).filter (q d)).length ≤ ((f d).filter (q d)).length := ((List.take_sublist j (f d)).filter (q d)).length_le
          omega
        refine hg1 _ G7 H7 _ x1 w7 (((s6.mono e6).mono e7).wipe vs1) kd1 _ fun σ3 c1 s8 => ⟨c1.wipe hjs1, ?_⟩
        have pm1 : ((D, OO.lst ((S j).map E.d)) :: (O ++ F)).Perm (O ++ (F ++ [(D, OO.lst ((S j).map E.d))])) := by
          rw [← List.append_assoc]
          exact (List.perm_append_singleton _ _).symm
        refine ht1 _ G7 H7 σ3 (w7.perm pm1) s8 _ fun G8 H8 e8 w8 => ?_
        cases hq : q d d1 with
        | false =>
          refine iteF ⟨hjlt, G8, (e6.trans e7).trans e8, ?_⟩
          have : S (j + 1) = S j := by
            show R i ++ _ = R i ++ _
            rw [et, List.filter_append, List.filter_cons, if_neg (by rw [hq]; exact Bool.false_ne_true)]
            simp
          rw [this]
          exact w8.perm pm1.symm
        | true =>
          refine iteT (hn1 hq _ G8 H8 σ3 w8 (s8.mono e8) _ fun v9 G9 H9 e9 w9 k9 => ?_)
          have w10 := w9.perm pm1.symm
          obtain ⟨o, h1, h2, _⟩ := w10.own _ List.mem_cons_self
          obtain ⟨xs, rfl, h3⟩ := h2.lstE
          have hxl : xs.length = (S j).length := by rw [h3.len, List.length_map]
          refine ⟨xs, h1, sz_lt (by omega), hjlt, G9, ((e6.trans e7).trans e8).trans e9, ?_⟩
          have : S (j + 1) = S j ++ [h d d1] := by
            show R i ++ _ = R i ++ _ ++ _
            rw [et, List.filter_append, List.filter_cons, if_pos hq, List.map_append, List.append_assoc]
            rfl
          rw [this]
          exact w10.set (i := 0) rfl (show Or G9 (.lst (xs ++ [v9])) (.lst ((S j ++ [h d d1]).map E.d)) by rw [List.map_append]; exact h3.append (.cons (.of k9) .nil))
      · have ej : j = (f d).length := by omega
        subst ej
        refine .inl ⟨WK1.stops H6 (e6.trans w6.sub), by omega, G6, (((e2.trans e3).trans e4).trans e5).trans e6, ?_⟩
        have : S (f d).length = R (i + 1) := by
          rw [hR1]
          show R i ++ _ = R i ++ _
          rw [List.take_length]
        rw [← this]
        exact w6
  · have e : i = ds.length := by omega
    subst e
    refine .inl ⟨WK.stops H' (e2.trans w2.sub), ?_⟩
    obtain ⟨xs, e5, w5, k5⟩ := w2.freeze
    have : R ds.length = ((ds.filter p).flatMap fun d => ((f d).filter (q d)).map (h d)) := by
      show ((ds.take ds.length).filter p).flatMap _ = _
      rw [List.take_length]
    rw [this] at k5
    exact qq _ _ _ (e1.trans (e2.trans e5)) w5 k5
end
end Ly
namespace Ly
open PySem L2 Evl PySem.Spec PyProof.Rows
/-! ### len(set(t)), t a tuple of tuples of numbers, all of them different -/
section
variable {P : Program} {w : World} {A : Around} {E : Value → Shared → Prop} {s : Shared}
set_option maxRecDepth 100000 in
set_option maxHeartbeats 3200000 in
theorem call_set_tupsT {l : Addr} {items : Array Value} (ks : List (Addr × List Int)) {Q : Value → Shared → Prop} (hh : A.handled = none) (hl : s.heap.IsTuple l items) (hit : items.toList = ks.map fun p => Value.ref p.1)
    (hk : ∀ p ∈ ks, IsT P w s.heap p.2 p.1) (hfew : ks.length < 64) (hu : A.units + 3 < cLine)
    (h : ∀ (h' : Heap) (tk : Nat) L es ep t, SetTR P w h' s.heap.objs.size L es ep t → Got ks ks.length L → (∀ b o, s.heap.get? b = some o → h'.get? b = some o) → Q (.ref s.heap.objs.size) { s with heap := h', toks := tk }) :
    wpAny (model P w) A (call (.type "set") [.ref l]) Q E s := by
  have hisz : items.size = ks.length := by
    have q := congrArg List.length hit
    rw [Array.length_toList, List.length_map] at q
    exact q
  obtain ⟨c, tl, hmro⟩ := PySem.F.called_set.mro
  have hmade := PySem.F.called_set.made
  have hsub := PySem.F.called_set.sub
  refine wpAny_call (codeAny_of_tree ?_)
  show wpAny _ _ (callAny (.type "set") _) _ _ _
  refine wpAny_pure ⟨Code.quiet_builtin _ (by decide +kernel), codeAny_builtin PySem.F.entry_type_call ?_⟩
  rw [Around.under_plain (weight_type_call_type "set" [.ref l] []) rfl]
  have h1 := PySem.F.called_set.notType
  have h2 := PySem.F.called_set.canCreate
  have hct := PySem.F.typeCall_set_1 (.ref l)
  repeat (any_goals (first | assumption | wp_step))

  refine codeAny_mono (code_set_led1 (.ref l) (E := E) (Q₁ := fun obj s₁ => obj = .ref s.heap.objs.size ∧ s₁ = { s with heap := s.heap.push { cls := .type "set", dict := none, data := .set #[] 0 (.fresh 0 0 (!w.params.followText "set-order")) } }) ⟨rfl, rfl⟩) fun r s₁ hr => ?_
  cases r with
  | error e => exact hr
  | ok fl =>
    cases fl with
    | ret obj =>
      obtain ⟨rfl, rfl⟩ := hr
      have hS : (s.heap.push { cls := .type "set", dict := none, data := .set #[] 0 (.fresh 0 0 (!w.params.followText "set-order")) }).get? s.heap.objs.size = some { cls := .type "set", dict := none, data := .set #[] 0 (.fresh 0 0 (!w.params.followText "set-order")) } := Heap.get?_push_size _ rfl
      have hT : Shared.TypeIs { s with heap := s.heap.push { cls := .type "set", dict := none, data := .set #[] 0 (.fresh 0 0 (!w.params.followText "set-order")) } } (.ref s.heap.objs.size) "set" := ⟨_, hS, rfl⟩
      have hli := PySem.F.called_set.init.lookup
      have hbi := PySem.F.called_set.init.bind (.ref s.heap.objs.size)
      repeat (any_goals (first | assumption | wp_step))

      refine codeAny_mono (codeAny_call_builtin (R := wants (fun r s₂ => r = .none ∧ ∃ h' tk L es ep t, s₂ = { s with heap := h', toks := tk } ∧ SetTR P w h' s.heap.objs.size L es ep t ∧ Got ks ks.length L ∧
          (∀ b o, s.heap.get? b = some o → h'.get? b = some o)) E) PySem.F.called_set.init.plain PySem.F.entry_set_init (check_set_init_1 hT ?_)) fun r₂ s₂ hr₂ => ?_
      · obtain ⟨ol, hol, hcl, nl, hdl⟩ := hl
        obtain ⟨ocls, odict, odata, oslots⟩ := ol
        simp only at hcl hdl
        subst hcl; subst hdl
        have hol' : (s.heap.push { cls := .type "set", dict := none, data := .set #[] 0 (.fresh 0 0 (!w.params.followText "set-order")) }).get? l = some { cls := .type "tuple", dict := odict, data := .seq items nl, slots := oslots } := Heap.get?_push_of_some _ hol
        have hsls := PySem.F.sub_tuple_set
        have hslf := PySem.F.sub_tuple_frozenset
        have hne : (Value.type "tuple" == Value.type "dict") = false := by decide
        have hl1 : (s.heap.push { cls := .type "set", dict := none, data := .set #[] 0 (.fresh 0 0 (!w.params.followText "set-order")) }).IsTuple l items := ⟨_, hol', rfl, nl, rfl⟩
        unfold Builtin.«set.__init__» noKeywords Builtin.Frozenset.updateFrom
        generalize hPI : pyIter = PI
        wp_walk
        subst hPI

        refine wpAny_pyIter_tuple hl1 ?_
        refine wpAny_bind (wpAny_runValue ?_)
        have hlS : l < s.heap.objs.size := Heap.lt_size hol
        have hh3 : A.in1.in1.in1.handled = none := by simp [hh]
        have hz1 : (s.heap.push { cls := .type "set", dict := none, data := .set #[] 0 (.fresh 0 0 (!w.params.followText "set-order")) }).objs.size = s.heap.objs.size + 1 := Heap.size_push ..
        have hneI : l ≠ (s.heap.push { cls := .type "set", dict := none, data := .set #[] 0 (.fresh 0 0 (!w.params.followText "set-order")) }).objs.size := by
          rw [Heap.size_push]; exact Nat.ne_of_lt (Nat.lt_succ_of_lt hlS)
        have hSf : s.heap.objs.size ∉ [(s.heap.push { cls := .type "set", dict := none, data := .set #[] 0 (.fresh 0 0 (!w.params.followText "set-order")) }).objs.size, l] := by
          rw [Heap.size_push]; simp only [List.mem_cons, List.mem_singleton, List.not_mem_nil, or_false, not_or]
          exact ⟨Nat.ne_of_lt (Nat.lt_succ_self _), Nat.ne_of_gt hlS⟩
        have hval : ∀ (i : Nat) (v : Value), items[i]? = some v → ∃ p, ks[i]? = some p ∧ v = .ref p.1 := fun i v hv => by
          have q : items.toList[i]? = some v := by rw [Array.getElem?_toList]; exact hv
          rw [hit, List.getElem?_map] at q
          cases hq : ks[i]? with
          | none => rw [hq] at q; cases q
          | some p =>
            rw [hq] at q
            exact ⟨p, rfl, (Option.some.inj q).symm⟩
        have none_of : ∀ b, s.heap.objs.size ≤ b → s.heap.get? b = none := fun b hb => by
          cases q : s.heap.get? b with
          | none => rfl
          | some o => exact absurd (Nat.lt_of_lt_of_le (Heap.lt_size q) hb) (Nat.lt_irrefl _)
        refine set_update_tups ((Walks.tuple hh3 _ l hneI items).toS) s.heap.objs.size
          hSf ks hisz hfew hval s.heap hk (none_of _ (Nat.le_refl _)) (fun b hb => none_of b (by
            rw [List.mem_singleton.mp hb, Heap.size_push]
            exact Nat.le_succ _)) hu (items.size - 0) 0 _ (by omega) (Nat.zero_le _)
          ⟨⟨_, Heap.get?_push_size _ rfl, rfl, rfl⟩, (hl1.push _)⟩ (fun b o e => Heap.get?_push_of_some _ (Heap.get?_push_of_some _ e)) ?hS0 ?hR
        case hS0 =>
          have hget : ((s.heap.push { cls := .type "set", dict := none, data := .set #[] 0 (.fresh 0 0 (!w.params.followText "set-order")) }).push { cls := .type "tuple_iterator", data := .fields #[.ref l, .int 0 0] }).get? s.heap.objs.size
              = some { cls := .type "set", dict := none, data := .set #[] 0 (.fresh 0 0 (!w.params.followText "set-order")) } := Heap.get?_push_of_some _ hS
          exact ⟨[], #[], 0, _, setTR_fresh hget, Got.zero ks⟩
        case hR =>
          intro s' L es ep t hm hS' g' hkp
          obtain ⟨h', g2, d', tk', os'⟩ := s'
          have eg : g2 = s.gens := hm.gens
          have ed : d' = s.drawn := hm.drawn
          have eo : os' = s.os := hm.os
          subst eg; subst ed; subst eo
          show wpAny _ _ _ _ _ _
          refine wpAny_pure ?_
          show wpAny _ _ (ret Value.none) _ _ _
          rw [hisz] at g'
          exact wpAny_pure ⟨rfl, h', tk', L, es, ep, t, rfl, hS', g', hkp⟩

      · cases r₂ with
        | error e => exact hr₂
        | ok fl₂ =>
          cases fl₂ with
          | ret r =>
            obtain ⟨rfl, h', tk, L, es, ep, t, rfl, hS', g', hk'⟩ := hr₂
            repeat (any_goals (first | assumption | wp_step))
            exact h _ _ _ _ _ _ hS' g' hk'
          | _ => exact hr₂.elim
    | _ => exact hr.elim
end
theorem len_same {a b : List (List Int)} (ha : a.Nodup) (hb : b.Nodup) (h : ∀ x, x ∈ a ↔ x ∈ b) : a.length = b.length := ((List.perm_ext_iff_of_nodup ha hb).mpr fun x => h x).length_eq
def tLenSetT (K : PySem.W.Frag) (ta : TE) : TE := fun σ H Q => ta σ H fun x H1 => ∃ (l : Addr) (ks : List (Addr × List Int)), x = V.ref l ∧ SqT K H1 l (ks.map fun p => V.ref p.1) ∧ (∀ p ∈ ks, SqT K H1 p.1 (p.2.map V.int)) ∧ ks.length < 64 ∧ (ks.map (·.2)).Nodup ∧ Q (.int ks.length) H1
theorem pe_lenSetT {X : Cx} {a : Expr} {ta : TE} {p p2 q pos : Pos} (hu : X.A.units + 64 < cLine) (hc : X.calm = true) (hg : Gl X "len") (hm : X.mg "len" = none) (hg2 : Gl X "set") (hm2 : X.mg "set" = none) (ha : PE X a ta)
    (na : starEach [a] X.env = (false, eval a X.env) :: starEach [] X.env := by rfl) : PE X (.Call (.Name "len" p) [.Call (.Name "set" p2) [a] [] q] [] pos) (tLenSetT X.K ta) := by
  refine ⟨fun pins s σ H Q I h => ?_⟩
  refine Call_ (ld_blt I hg hm PySem.boot_len ?_)
  refine PyProof.Rows.callWith_builtin1 (PyProof.Rows.args_cons ?_ rfl) rfl rfl
  refine Call_ (ld_blt I hg2 hm2 PyProof.Rows.boot_set ?_)
  refine PyProof.Rows.callWith_type1 (PyProof.Rows.args_cons (thn (ha.run pins s σ H _ I h) fun v s1 ⟨x, H1, I1, r1, q1⟩ => PyProof.Rows.args_nil ?_) na) na rfl
  obtain ⟨l, ks, rfl, hq, hk, h1, hnd, q1⟩ := q1
  cases r1
  obtain ⟨its, rv, pl, hz⟩ := I1.tuple hq
  refine call_set_tupsT (P := X.prog) (w := X.w) ks (I1.ok.hd hc) (by obtain ⟨o, ho, a1, a2⟩ := pl; exact ⟨o, ho, a1, a2⟩) (by simpa using refs_of_vals rv) (fun p hp => I1.isT (hk p hp)) h1 (by omega) fun h' tk L es ep t R g k => ?_
  have hlen : L.length = ks.length := by
    have e := len_same R.nd hnd fun x => ⟨fun hx => ?_, fun hx => ?_⟩
    · rwa [List.length_map, List.length_map] at e
    · obtain ⟨p, hp, rfl⟩ := List.mem_map.mp hx
      exact List.mem_map.mpr ⟨p, List.mem_of_mem_take (g.sub p hp), rfl⟩
    · obtain ⟨p, hp, rfl⟩ := List.mem_map.mp hx
      exact g.all p (by rw [List.take_length]; exact hp)
  refine PyProof.Rows.args_nil ?_
  obtain ⟨o, ho, hex, hd⟩ := R.ob
  have I2 : Inv X pins σ H1 { s1 with heap := h', toks := tk } := I1.kept fun b o e => k b o e
  have hes : es.size = ks.length := by rw [SetTR.size (s := { s1 with heap := h', toks := tk }) R, hlen]
  refine call_len_set ho hex hd (SetTR.fits (s := { s1 with heap := h', toks := tk }) R) (by rw [hes]; omega) ⟨.int ks.length, H1, I2.tok _, ⟨_, by rw [hes]⟩, q1⟩
section
variable {K : PySem.W.Frag} {ρ : List E} {O : Own} {te ta tb : TE} {P : Out → Prop}
theorem tups_of {G : Hp} : ∀ {cs : List (List Int)} {vs : List V}, DaS G vs (cs.map fun c => .tuple (c.map .int)) → ∃ ks : List (Addr × List Int), vs = ks.map (fun p => V.ref p.1) ∧ (∀ p ∈ ks, G p.1 = some (.tup (p.2.map V.int))) ∧ ks.map (·.2) = cs
  | [], _, h => by cases h; exact ⟨[], rfl, fun p hp => (by cases hp), rfl⟩
  | c :: cs, _, h => by
    rw [List.map_cons] at h
    cases h with
    | cons a s =>
      obtain ⟨ks, rfl, h2, h3⟩ := tups_of s
      obtain ⟨b, xs, rfl, hb, hs⟩ := a.isTup
      rw [hs.ints] at hb
      refine ⟨(b, c) :: ks, rfl, fun p hp => ?_, by rw [List.map_cons, h3]⟩
      rcases List.mem_cons.mp hp with rfl | hp
      · exact hb
      · exact h2 p hp
theorem ev_lenSetT {cs : List (List Int)} (h : EvD ta ρ O (.tuple (cs.map fun c => .tuple (c.map .int)))) (hl : cs.length < 64) (hn : cs.Nodup) : EvD (tLenSetT K ta) ρ O (.int (cs.length : Nat)) := fun F G H σ w s Q q => h F G H σ w s _ fun v G1 H1 e1 w1 k1 => by
  obtain ⟨a, xs, rfl, ha, hs⟩ := k1.isTup
  obtain ⟨ks, rfl, h2, h3⟩ := tups_of hs
  have e : ks.length = cs.length := by rw [← h3, List.length_map]
  refine ⟨a, ks, rfl, SqT.of (w1.sub _ _ ha), fun p hp => SqT.of (w1.sub _ _ (h2 p hp)), by omega, by rw [h3]; exact hn, ?_⟩
  rw [e]
  exact q _ G1 H1 e1 w1 (.int _)
/-- xs += ys, xs a list of its own -/
theorem sx_ext {i k : Nat} {a : Addr} {es : List E} {ds : List PyData} (hr : ρ[i]? = some (.r a)) (hk : O[k]? = some (a, .lst es)) (h : EvD te ρ O (.list ds)) (hz : es.length + ds.length ≤ 100000) (hP : P (.nx ρ (O.set k (a, .lst (es ++ ds.map E.d))))) :
    SX (tAug i te rExt2) ρ O P := fun F G H σ D w s q => by
  obtain ⟨ov, h1, rfl⟩ := s.get hr
  refine ⟨_, h1, h F G H σ w s _ fun v G1 H1 e1 w1 k1 => ?_⟩
  obtain ⟨b, zs, rfl, hb, hs⟩ := k1.isLst
  obtain ⟨o, g1, g2, _⟩ := w1.at (OF (F := F) hk)
  obtain ⟨us, rfl, g3⟩ := g2.lstE
  refine ⟨a, b, us, zs, rfl, rfl, g1, w1.sub _ _ hb, sz5 (by rw [g3.len, hs.len]; exact hz), ?_⟩
  have s2 := Sl.set (G := G1) (show Er G1 (some (.ref a)) (.r a) from rfl) i (s.mono e1)
  obtain ⟨hlt, he⟩ := List.getElem?_eq_some_iff.mp hr
  have e : ρ.set i (.r a) = ρ := by rw [← he, List.set_getElem_self]
  rw [e] at s2
  exact q _ hP G1 _ _ e1 (w1.setF hk (o' := .lst (us ++ zs)) (g3.appendD hs)) s2
/-- a slice up to a place that is told while what is owned changes -/
theorem ev_slH {rr : V → Option Int → Option Int → Hp → VK → Prop} {thi : TE} {tl : TO} {lo : Option Int} {x : PyData} {Z : E → Own → Prop} (h : EvD te ρ O x) (hl : EvO tl ρ O lo) (hh : Ev thi ρ O (fun r O1 => ∃ i z, r = .d (.int i) ∧ RS rr x lo (some i) z ∧ Z (.d z) O1)) : Ev (tSl rr te tl (tPart thi)) ρ O Z := fun F G H σ w s Q q =>
  h F G H σ w s _ fun v1 G1 H1 e1 w1 k1 => hl F G1 H1 σ w1 (s.mono e1) _ fun G2 H2 e2 w2 => hh F G2 H2 σ w2 ((s.mono e1).mono e2) _ fun v3 G3 H3 r O1 zz e3 w3 k3 => by
    obtain ⟨i, z, rfl, hr, hz⟩ := zz
    exact ⟨i, k3.dat.isInt, hr (O1 ++ F) G3 H3 v1 w3 ((k1.mono e2).mono e3) Q fun v G' H' e w' k => q v G' H' _ O1 hz (((e1.trans e2).trans e3).trans e) w' (.of k)⟩
end
theorem walk_zipT {K : PySem.W.Frag} {a b : Addr} {xs ys : List V} {n : Nat} (hn : n = min xs.length ys.length) : Walk (RZ.ItzT K a b) n (fun H => SqT K H a xs ∧ SqT K H b ys) (YPair (fun i => xs[i]?) (fun i => ys[i]?)) := by
  subst hn
  refine ⟨fun i _ hi q => ?_, fun _ q => ⟨xs, ys, q.1, q.2, by omega⟩, fun i H v H' _ q y => ?_⟩
  · have h1 : i < xs.length := by omega
    have h2 : i < ys.length := by omega
    exact ⟨xs, ys, xs[i], ys[i], q.1, q.2, by simp [h1], by simp [h2]⟩
  · obtain ⟨T, x, z, h1, h2, h3, h4, h5⟩ := y
    exact ⟨T, x, z, h1, h2, h3, h4 xs q.1, h5 ys q.2⟩
theorem ei_zipT {K : PySem.W.Frag} {ds es : List PyData} {ρ : List E} {O : Own} {ta : TA} (h : EvA ta ρ O [.tuple ds, .tuple es]) : EvI (RZ.iZipA K ta) ρ O (zipD ds es) := fun F G H σ w s R q => h F G H σ w s _ fun v G1 H1 e1 w1 k1 => by
  cases k1 with
  | cons k0 k1 =>
  obtain ⟨v, rfl, k⟩ := k1.one
  obtain ⟨a, xs, rfl, ha, hs⟩ := k0.isTup
  obtain ⟨b, ys, rfl, hb, ht⟩ := k.isTup
  refine ⟨a, b, xs, ys, rfl, .inr ⟨SqT.of (w1.sub _ _ ha), SqT.of (w1.sub _ _ hb), q _ G1 H1 e1 w1 (wd_pair (walk_zipT rfl) (by unfold zipD; rw [List.length_zipWith, hs.len, ht.len]) (fun H x => ⟨SqT.of (x _ _ ha), SqT.of (x _ _ hb)⟩) fun i x y hx hy hi => ?_)⟩⟩
  obtain ⟨d, h1, h2⟩ := hs.getV hx
  obtain ⟨e, h3, h4⟩ := ht.getV hy
  exact ⟨d, e, by unfold zipD; rw [List.getElem?_zipWith, h1, h3], h2, h4⟩
theorem ip_ext {X : Cx} : PIp X .Add rExt2 := fun pins s σ H x y u v Q I rx ry h => iop_ext pins s σ H x y u v Q I rx ry h
end Ly
namespace Ly
namespace K45
/-! ### the number of some octets, rolled on -/
def stepN (n o : Int) : Int := (n * 263 + o + 1) % 1000003
def numD (ns : List Int) : Int := ns.foldl stepN 0
def topN : Nat → Int
  | 0 => 1
  | n + 1 => topN n * 263 % 1000003
theorem stepN_lt (n o : Int) : 0 ≤ stepN n o ∧ stepN n o < 1000003 := by
  unfold stepN
  omega
theorem numD_snoc (ns : List Int) (o : Int) : numD (ns ++ [o]) = stepN (numD ns) o := by
  unfold numD
  rw [List.foldl_append]
  rfl
theorem numD_lt (ns : List Int) : 0 ≤ numD ns ∧ numD ns < 1000003 := by
  rcases List.eq_nil_or_concat ns with h | ⟨l, o, h⟩
  · subst h
    decide
  · subst h
    rw [List.concat_eq_append, numD_snoc]
    exact stepN_lt _ _
theorem topN_lt : ∀ n, 0 ≤ topN n ∧ topN n < 1000003
  | 0 => by decide
  | n + 1 => by
    unfold topN
    omega
theorem topN_ex : ∀ n : Nat, ∃ k : Int, topN n = 263 ^ n + 1000003 * k
  | 0 => ⟨0, by decide⟩
  | n + 1 => by
    obtain ⟨k, h⟩ := topN_ex n
    refine ⟨263 * k - (topN n * 263 / 1000003), ?_⟩
    have e := Int.emod_def (topN n * 263) 1000003
    have e2 : topN (n + 1) = topN n * 263 % 1000003 := rfl
    rw [e2, e, h, Int.pow_succ]
    grind
theorem fold_ex : ∀ (ys : List Int) (a : Int), ∃ k : Int, ys.foldl stepN a = a * 263 ^ ys.length + ys.foldl stepN 0 + 1000003 * k
  | [], a => ⟨0, by simp⟩
  | y :: ys, a => by
    obtain ⟨k1, h1⟩ := fold_ex ys (stepN a y)
    obtain ⟨k2, h2⟩ := fold_ex ys (stepN 0 y)
    have ea : stepN a y = a * 263 + y + 1 - 1000003 * ((a * 263 + y + 1) / 1000003) := Int.emod_def _ _
    have e0 : stepN 0 y = 0 * 263 + y + 1 - 1000003 * ((0 * 263 + y + 1) / 1000003) := Int.emod_def _ _
    rw [List.foldl_cons, List.foldl_cons, h1, h2, List.length_cons, Int.pow_succ, ea, e0]
    generalize (a * 263 + y + 1) / 1000003 = qa
    generalize (0 * 263 + y + 1) / 1000003 = q0
    generalize (263 : Int) ^ ys.length = B
    generalize ys.foldl stepN 0 = F
    exact ⟨k1 - k2 - (qa - q0) * B, by grind⟩
theorem roll (x : Int) (ys : List Int) : (numD (x :: ys) - (x + 1) * topN ys.length) % 1000003 = numD ys := by
  obtain ⟨k, h⟩ := fold_ex ys (stepN 0 x)
  obtain ⟨t, ht⟩ := topN_ex ys.length
  have e0 : stepN 0 x = 0 * 263 + x + 1 - 1000003 * ((0 * 263 + x + 1) / 1000003) := Int.emod_def _ _
  have hn : numD (x :: ys) = stepN 0 x * 263 ^ ys.length + numD ys + 1000003 * k := h
  have hl := numD_lt ys
  have : numD (x :: ys) - (x + 1) * topN ys.length = numD ys + 1000003 * (k - ((0 * 263 + x + 1) / 1000003) * 263 ^ ys.length - (x + 1) * t) := by
    rw [hn, ht, e0]
    grind
  rw [this, Int.add_mul_emod_self_left]
  exact Int.emod_eq_of_lt hl.1 hl.2
/-! ### windows and marks -/
/-- the last w of the first i -/
def win (w : Nat) (ns : List Int) (i : Nat) : List Int := (ns.take i).drop (i - w)
theorem win_small {w i : Nat} {ns : List Int} {o : Int} (h : ns[i]? = some o) (hi : i < w) : win w ns (i + 1) = win w ns i ++ [o] := by
  unfold win
  rw [show i + 1 - w = 0 by omega, show i - w = 0 by omega, List.drop_zero, List.drop_zero, List.take_add_one, h]
  rfl
theorem win_big {w i : Nat} {ns : List Int} {o x : Int} (h : ns[i]? = some o) (hx : ns[i - w]? = some x) (hi : w ≤ i) (hw : 1 ≤ w) : ∃ ys, ys.length = w ∧ win w ns i ++ [o] = x :: ys ∧ win w ns (i + 1) = ys := by
  have hl := (List.getElem?_eq_some_iff.mp h).1
  refine ⟨win w ns (i + 1), ?_, ?_, rfl⟩
  · unfold win
    rw [List.length_drop, List.length_take]
    omega
  · unfold win
    have e1 : ns.take (i + 1) = ns.take i ++ [o] := by rw [List.take_add_one, h]; rfl
    have e2 : (ns.take i).drop (i - w) ++ [o] = (ns.take (i + 1)).drop (i - w) := by
      rw [e1, List.drop_append_of_le_length (by rw [List.length_take]; omega)]
    rw [e2]
    have hlt : i - w < (ns.take (i + 1)).length := by rw [List.length_take]; omega
    rw [List.drop_eq_getElem_cons hlt, show i + 1 - w = i - w + 1 by omega]
    congr 1
    rw [List.getElem_take]
    exact (List.getElem?_eq_some_iff.mp hx).2
/-- own, at each turn -/
theorem own_small {w i : Nat} {ns : List Int} {o : Int} (h : ns[i]? = some o) (hi : i < w) : stepN (numD (win w ns i)) o = numD (win w ns (i + 1)) := by
  rw [win_small h hi, numD_snoc]
theorem own_big {w i : Nat} {ns : List Int} {o x : Int} (h : ns[i]? = some o) (hx : ns[i - w]? = some x) (hi : w ≤ i) (hw : 1 ≤ w) :
    (stepN (numD (win w ns i)) o - (x + 1) * topN w) % 1000003 = numD (win w ns (i + 1)) := by
  obtain ⟨ys, h1, h2, h3⟩ := win_big h hx hi hw
  rw [← numD_snoc, h2, h3, ← h1]
  exact roll x ys
/-- the marks among the first i places -/
def isMark (w : Nat) (p : Int) (ns : List Int) (k : Nat) : Bool := decide (w ≤ k) && decide (numD (win w ns k) % p = 0)
def marksU (w : Nat) (p : Int) (ns : List Int) : Nat → List Int
  | 0 => []
  | i + 1 => marksU w p ns i ++ (if isMark w p ns (i + 1) = true then [((i + 1 : Nat) : Int)] else [])
theorem marksU_none {w : Nat} {p : Int} {ns : List Int} : ∀ i, i < w → marksU w p ns i = []
  | 0, _ => rfl
  | i + 1, h => by
    unfold marksU
    rw [marksU_none i (by omega), if_neg]
    · rfl
    · unfold isMark
      rw [decide_eq_false (by omega), Bool.false_and]
      exact Bool.false_ne_true
theorem marksU_mem {w : Nat} {p : Int} {ns : List Int} {m : Int} : ∀ {i : Nat}, m ∈ marksU w p ns i → (w : Int) ≤ m ∧ m ≤ (i : Int)
  | 0, h => by cases h
  | i + 1, h => by
    unfold marksU at h
    rcases List.mem_append.mp h with h | h
    · have := marksU_mem h
      omega
    · split at h
      · rename_i hm
        unfold isMark at hm
        simp at hm h
        omega
      · cases h
theorem marksU_len {w : Nat} {p : Int} {ns : List Int} : ∀ i : Nat, (marksU w p ns i).length ≤ i
  | 0 => Nat.le_refl _
  | i + 1 => by
    unfold marksU
    rw [List.length_append]
    have := marksU_len (w := w) (p := p) (ns := ns) i
    split <;> simp <;> omega
theorem marksU_asc {w : Nat} {p : Int} {ns : List Int} : ∀ i : Nat, (marksU w p ns i).Pairwise (· < ·)
  | 0 => .nil
  | i + 1 => by
    unfold marksU
    rw [List.pairwise_append]
    refine ⟨marksU_asc i, ?_, fun a ha b hb => ?_⟩
    · split
      · exact List.pairwise_singleton _ _
      · exact .nil
    · have := marksU_mem ha
      split at hb
      · simp at hb
        omega
      · cases hb
/-! ### cuts -/
/-- the first mark that fits, else the greatest size, at most the end -/
def good (spots : List Int) (lo hi : Int) : List Int := spots.filter fun m => decide (lo ≤ m) && decide (m ≤ hi)
def nextCut (spots : List Int) (least most len b : Int) : Int :=
  let e := match good spots (b + least) (b + most) with | g :: _ => g | [] => b + most
  if len < e then len else e
def cutsN (spots : List Int) (least most len : Int) : Nat → Int → List Int
  | 0, _ => []
  | n + 1, b => if b < len then nextCut spots least most len b :: cutsN spots least most len n (nextCut spots least most len b) else []
theorem cutsN_succ {spots : List Int} {least most len b : Int} {n : Nat} : cutsN spots least most len (n + 1) b = if b < len then nextCut spots least most len b :: cutsN spots least most len n (nextCut spots least most len b) else [] := rfl
/-- what is read of the first one that fits -/
theorem nextCut_ge {spots : List Int} {least most len b : Int} (h1 : 1 ≤ least) (h2 : least ≤ most) (hb : b < len) : b < nextCut spots least most len b ∧ nextCut spots least most len b ≤ len := by
  unfold nextCut
  cases hg : good spots (b + least) (b + most) with
  | nil =>
    show b < (if len < b + most then len else b + most) ∧ (if len < b + most then len else b + most) ≤ len
    split <;> omega
  | cons g r =>
    have hm : g ∈ good spots (b + least) (b + most) := by rw [hg]; exact List.mem_cons_self
    unfold good at hm
    have := (List.mem_filter.mp hm).2
    simp at this
    show b < (if len < g then len else g) ∧ (if len < g then len else g) ≤ len
    split <;> omega
theorem cutsN_more {spots : List Int} {least most len : Int} (h1 : 1 ≤ least) (h2 : least ≤ most) : ∀ (n m : Nat) (b : Int), (len - b).toNat ≤ n → n ≤ m → cutsN spots least most len m b = cutsN spots least most len n b
  | 0, 0, _, _, _ => rfl
  | 0, m + 1, b, h, _ => by
    unfold cutsN
    rw [if_neg (by omega)]
  | n + 1, 0, _, _, h => by omega
  | n + 1, m + 1, b, h, hm => by
    rw [cutsN_succ, cutsN_succ]
    by_cases hb : b < len
    · have := nextCut_ge (spots := spots) h1 h2 hb
      rw [if_pos hb, if_pos hb, cutsN_more h1 h2 n m _ (by omega) (by omega)]
    · rw [if_neg hb, if_neg hb]
/-- all cuts from b on -/
def cutsL (spots : List Int) (least most len b : Int) : List Int := cutsN spots least most len (len - b).toNat b
theorem cutsL_eq {spots : List Int} {least most len b : Int} (h1 : 1 ≤ least) (h2 : least ≤ most) : cutsL spots least most len b = if b < len then nextCut spots least most len b :: cutsL spots least most len (nextCut spots least most len b) else [] := by
  by_cases hb : b < len
  · have := nextCut_ge (spots := spots) h1 h2 hb
    unfold cutsL
    rw [if_pos hb]
    obtain ⟨n, hn⟩ : ∃ n, (len - b).toNat = n + 1 := ⟨(len - b).toNat - 1, by omega⟩
    rw [hn, cutsN_succ, if_pos hb, cutsN_more h1 h2 (len - nextCut spots least most len b).toNat n _ (Nat.le_refl _) (by omega)]
  · unfold cutsL
    rw [if_neg hb, show (len - b).toNat = 0 by omega]
    rfl
/-- how the loop over the marks meets the next cut: m is the first mark that may matter, or the end -/
theorem next_far {spots : List Int} {least most len b m : Int} (h1 : 1 ≤ least) (h2 : least ≤ most) (hg : ∀ x ∈ spots, b + least ≤ x → m ≤ x) (hm : m ≤ len) (hf : most < m - b) : nextCut spots least most len b = b + most := by
  have e : good spots (b + least) (b + most) = [] := by
    unfold good
    rw [List.filter_eq_nil_iff]
    intro x hx
    simp
    intro h
    have := hg x hx h
    omega
  unfold nextCut
  rw [e]
  show (if len < b + most then len else b + most) = b + most
  rw [if_neg (by omega)]
theorem next_here {spots : List Int} {least most len b m : Int} (h1 : 1 ≤ least) (h2 : least ≤ most) (ha : spots.Pairwise (· < ·)) (hl : ∀ x ∈ spots, x ≤ len) (hg : ∀ x ∈ spots, b + least ≤ x → m ≤ x) (hm : m ≤ len) (hi : m ∈ spots ∨ m = len)
    (h3 : least ≤ m - b) (h4 : m - b ≤ most) : nextCut spots least most len b = m := by
  unfold nextCut
  cases hgd : good spots (b + least) (b + most) with
  | nil =>
    rcases hi with hi | hi
    · exfalso
      have : m ∈ good spots (b + least) (b + most) := by
        unfold good
        rw [List.mem_filter]
        refine ⟨hi, ?_⟩
        simp
        omega
      rw [hgd] at this
      cases this
    · subst hi
      show (if m < b + most then m else b + most) = m
      split <;> omega
  | cons g r =>
    have hgm : g ∈ good spots (b + least) (b + most) := by rw [hgd]; exact List.mem_cons_self
    unfold good at hgm
    obtain ⟨hs, hd⟩ := List.mem_filter.mp hgm
    simp at hd
    have hge := hg g hs (by omega)
    have hle : g ≤ m := by
      rcases hi with hi | hi
      · have hmm : m ∈ good spots (b + least) (b + most) := by
          unfold good
          rw [List.mem_filter]
          refine ⟨hi, ?_⟩
          simp
          omega
        have hp : (good spots (b + least) (b + most)).Pairwise (· < ·) := ha.filter _
        rw [hgd] at hmm hp
        rcases List.mem_cons.mp hmm with h | h
        · omega
        · have := (List.pairwise_cons.mp hp).1 m h
          omega
      · have := hl g hs
        omega
    show (if len < g then len else g) = m
    rw [if_neg (by omega)]
    omega
theorem cutsL_far {spots : List Int} {least most len b m : Int} (h1 : 1 ≤ least) (h2 : least ≤ most) (hg : ∀ x ∈ spots, b + least ≤ x → m ≤ x) (hm : m ≤ len) (hf : most < m - b) : cutsL spots least most len b = (b + most) :: cutsL spots least most len (b + most) := by
  rw [cutsL_eq h1 h2, if_pos (by omega), next_far h1 h2 hg hm hf]
theorem cutsL_here {spots : List Int} {least most len b m : Int} (h1 : 1 ≤ least) (h2 : least ≤ most) (ha : spots.Pairwise (· < ·)) (hl : ∀ x ∈ spots, x ≤ len) (hg : ∀ x ∈ spots, b + least ≤ x → m ≤ x) (hm : m ≤ len) (hi : m ∈ spots ∨ m = len)
    (h3 : least ≤ m - b) (h4 : m - b ≤ most) : cutsL spots least most len b = m :: cutsL spots least most len m := by
  rw [cutsL_eq h1 h2, if_pos (by omega), next_here h1 h2 ha hl hg hm hi h3 h4]
theorem cutsL_end {spots : List Int} {least most len b : Int} (h1 : 1 ≤ least) (h2 : least ≤ most) (hg : ∀ x ∈ spots, x < b + least) (hb : b ≤ len) (hf : len - b < least) : cutsL spots least most len b = if b = len then [] else [len] := by
  rw [cutsL_eq h1 h2]
  by_cases e : b = len
  · rw [if_neg (by omega), if_pos e]
  · have en : nextCut spots least most len b = len := by
      have eg : good spots (b + least) (b + most) = [] := by
        unfold good
        rw [List.filter_eq_nil_iff]
        intro x hx
        simp
        intro h
        have := hg x hx
        omega
      unfold nextCut
      rw [eg]
      show (if len < b + most then len else b + most) = len
      rw [if_pos (by omega)]
    rw [if_pos (by omega), if_neg e, en, cutsL_eq h1 h2, if_neg (by omega)]
/-! ### what holds of the cuts: from b on -/
inductive Cuts (least most len : Int) : Int → List Int → Prop
  | nil : Cuts least most len len []
  | last {b : Int} : b < len → len ≤ b + most → Cuts least most len b [len]
  | cons {b c : Int} {cs : List Int} : b + least ≤ c → c ≤ b + most → c < len → Cuts least most len c cs → Cuts least most len b (c :: cs)
theorem cutsN_cuts {spots : List Int} {least most len : Int} (h1 : 1 ≤ least) (h2 : least ≤ most) : ∀ (n : Nat) (b : Int), b ≤ len → (len - b).toNat ≤ n → Cuts least most len b (cutsN spots least most len n b)
  | 0, b, hb, hn => by
    have e : b = len := by omega
    subst e
    exact .nil
  | n + 1, b, hb, hn => by
    rw [cutsN_succ]
    by_cases h : b < len
    · rw [if_pos h]
      have q := nextCut_ge (spots := spots) h1 h2 h
      have hc : nextCut spots least most len b ≤ b + most ∧ (nextCut spots least most len b < len → b + least ≤ nextCut spots least most len b) := by
        unfold nextCut
        cases hg : good spots (b + least) (b + most) with
        | nil =>
          show (if len < b + most then len else b + most) ≤ b + most ∧ ((if len < b + most then len else b + most) < len → b + least ≤ (if len < b + most then len else b + most))
          split <;> omega
        | cons g r =>
          have hm : g ∈ good spots (b + least) (b + most) := by rw [hg]; exact List.mem_cons_self
          unfold good at hm
          have := (List.mem_filter.mp hm).2
          simp at this
          show (if len < g then len else g) ≤ b + most ∧ ((if len < g then len else g) < len → b + least ≤ (if len < g then len else g))
          split <;> omega
      have ih := cutsN_cuts (spots := spots) h1 h2 n (nextCut spots least most len b) q.2 (by omega)
      by_cases hl : nextCut spots least most len b = len
      · rw [hl] at ih hc ⊢
        have e0 : cutsN spots least most len n len = [] := by
          cases n with
          | zero => rfl
          | succ n => rw [cutsN_succ, if_neg (by omega)]
        rw [e0]
        exact .last h hc.1
      · exact .cons (hc.2 (by omega)) hc.1 (by omega) ih
    · rw [if_neg h]
      have e : b = len := by omega
      subst e
      exact .nil
theorem cutsL_cuts {spots : List Int} {least most len b : Int} (h1 : 1 ≤ least) (h2 : least ≤ most) (hb : b ≤ len) : Cuts least most len b (cutsL spots least most len b) := cutsN_cuts h1 h2 _ b hb (Nat.le_refl _)
theorem Cuts.le {least most len b : Int} {cs : List Int} (h1 : 1 ≤ least) (h : Cuts least most len b cs) : b ≤ len := by
  cases h <;> omega
theorem Cuts.length {least most len b : Int} {cs : List Int} (h1 : 1 ≤ least) (h : Cuts least most len b cs) : (cs.length : Int) ≤ len - b := by
  induction h with
  | nil => simp
  | last h1 h2 => simp; omega
  | cons h1 h2 h3 h4 ih => simp; omega
/-! ### chunks -/
def sl (ns : List Int) (a b : Int) : List Int := (ns.drop a.toNat).take (b.toNat - a.toNat)
def chunksL (ns : List Int) : Int → List Int → List (List Int)
  | _, [] => []
  | b, c :: cs => sl ns b c :: chunksL ns c cs
theorem chunks_all {ns : List Int} {least most b : Int} {cs : List Int} (h1 : 1 ≤ least) (h : Cuts least most (ns.length : Int) b cs) (hb : 0 ≤ b) : (chunksL ns b cs).flatten = ns.drop b.toNat := by
  induction h with
  | nil => simp [chunksL]
  | @last b h2 h3 =>
    show (sl ns b ns.length ++ []) = _
    unfold sl
    rw [List.append_nil, List.take_of_length_le (by rw [List.length_drop]; omega)]
  | @cons b c cs h2 h3 h4 h5 ih =>
    show sl ns b c ++ (chunksL ns c cs).flatten = _
    rw [ih (by omega)]
    unfold sl
    have e : c.toNat = b.toNat + (c.toNat - b.toNat) := by omega
    have e2 : ns.drop c.toNat = (ns.drop b.toNat).drop (c.toNat - b.toNat) := by rw [List.drop_drop, ← e]
    rw [e2, List.take_append_drop]
theorem chunks_sizes {ns : List Int} {least most b : Int} {cs : List Int} (h1 : 1 ≤ least) (h : Cuts least most (ns.length : Int) b cs) (hb : 0 ≤ b) :
    (∀ c ∈ chunksL ns b cs, 1 ≤ c.length ∧ (c.length : Int) ≤ most) ∧ ∀ c ∈ (chunksL ns b cs).dropLast, least ≤ (c.length : Int) := by
  induction h with
  | nil => exact ⟨fun c hc => (by cases hc), fun c hc => (by cases hc)⟩
  | @last b h2 h3 =>
    refine ⟨fun c hc => ?_, fun c hc => (by cases hc)⟩
    have e : c = sl ns b ns.length := by simpa [chunksL] using hc
    subst e
    unfold sl
    rw [List.length_take, List.length_drop]
    omega
  | @cons b c cs h2 h3 h4 h5 ih =>
    obtain ⟨i1, i2⟩ := ih (by omega)
    have el : (sl ns b c).length = c.toNat - b.toNat := by
      unfold sl
      rw [List.length_take, List.length_drop]
      omega
    refine ⟨fun x hx => ?_, fun x hx => ?_⟩
    · rcases List.mem_cons.mp (show x ∈ sl ns b c :: chunksL ns c cs from hx) with e | e
      · subst e
        rw [el]
        omega
      · exact i1 x e
    · have e0 : (chunksL ns b (c :: cs)).dropLast = (sl ns b c :: chunksL ns c cs).dropLast := rfl
      rw [e0] at hx
      cases hcs : chunksL ns c cs with
      | nil =>
        rw [hcs] at hx
        cases hx
      | cons y ys =>
        rw [hcs, List.dropLast_cons₂] at hx
        rcases List.mem_cons.mp hx with e | e
        · subst e
          rw [el]
          omega
        · exact i2 x (by rw [hcs]; exact e)
/-! ### all places are marks -/
def fDue (least many : Int) (k : Nat) : Int := if least * ((k : Int) + 1) < many then least * ((k : Int) + 1) else many
theorem marks_every {ns : List Int} : ∀ (n : Nat) (m : Int), m ∈ marksU 1 1 ns n ↔ 1 ≤ m ∧ m ≤ (n : Int)
  | 0, m => by
    constructor
    · intro h
      cases h
    · intro h
      omega
  | n + 1, m => by
    have hk : isMark 1 1 ns (n + 1) = true := by
      unfold isMark
      simp
    unfold marksU
    rw [if_pos hk, List.mem_append, marks_every n m, List.mem_singleton]
    omega
theorem due_from {spots : List Int} {least many : Int} {N : Nat} (h1 : 1 ≤ least) (h5 : least ≤ 512) (h0 : 0 ≤ many) (hs : ∀ m, m ∈ spots ↔ 1 ≤ m ∧ m ≤ many) (ha : spots.Pairwise (· < ·)) (hN : (N : Int) = (many + least - 1) / least) :
    ∀ (n k : Nat), k + n = N → cutsL spots least 512 many (least * k) = (List.range' k n).map (fDue least many) := by
  have hd := Int.mul_ediv_add_emod (many + least - 1) least
  have hr := Int.emod_nonneg (many + least - 1) (show least ≠ 0 by omega)
  have hr2 := Int.emod_lt_of_pos (many + least - 1) (show 0 < least by omega)
  rw [← hN] at hd
  intro n
  induction n with
  | zero =>
    intro k hk
    have e : k = N := by omega
    subst e
    rw [cutsL_eq h1 h5, if_neg (by omega)]
    rfl
  | succ n ih =>
    intro k hk
    have hle : least * ((k : Int) + 1) ≤ least * (N : Int) := Int.mul_le_mul_of_nonneg_left (by omega) (by omega)
    have hx : least * ((k : Int) + 1) = least * k + least := by rw [Int.mul_add, Int.mul_one]
    have hlt : least * (k : Int) < many := by omega
    have h0k : 0 ≤ least * (k : Int) := Int.mul_nonneg (by omega) (by omega)
    rw [List.range'_succ, List.map_cons]
    by_cases hc : least * ((k : Int) + 1) < many
    · have hf : fDue least many k = least * ((k : Int) + 1) := by
        unfold fDue
        rw [if_pos hc]
      rw [hf, cutsL_here (m := least * ((k : Int) + 1)) h1 h5 ha (fun x hx => ((hs x).mp hx).2) (fun x hx h => by omega) (by omega) (.inl ((hs _).mpr ⟨by omega, by omega⟩)) (by omega) (by omega)]
      have := ih (k + 1) (by omega)
      rw [← this]
      rfl
    · have hf : fDue least many k = many := by
        unfold fDue
        rw [if_neg hc]
      have hn : n = 0 := by
        rcases Nat.eq_zero_or_pos n with h | h
        · exact h
        · exfalso
          have : least * ((k : Int) + 2) ≤ least * (N : Int) := Int.mul_le_mul_of_nonneg_left (by omega) (by omega)
          have e2 : least * ((k : Int) + 2) = least * k + least * 2 := Int.mul_add _ _ _
          omega
      subst hn
      rw [hf]
      show _ = [many]
      by_cases he : least * ((k : Int) + 1) = many
      · rw [cutsL_here (m := many) h1 h5 ha (fun x hx => ((hs x).mp hx).2) (fun x hx h => by omega) (by omega) (.inr rfl) (by omega) (by omega), cutsL_eq h1 h5, if_neg (by omega)]
      · rw [cutsL_end h1 h5 (fun x hx => by have := ((hs x).mp hx).2; omega) (by omega) (by omega), if_neg (by omega)]
theorem due_all {ns : List Int} {least : Int} {n : Nat} (h1 : 1 ≤ least) (h5 : least ≤ 512) :
    cutsL (marksU 1 1 ns n) least 512 (n : Int) 0 = (List.range (((n : Int) + least - 1) / least).toNat).map (fDue least n) := by
  have hq : 0 ≤ ((n : Int) + least - 1) / least := Int.ediv_nonneg (by omega) (by omega)
  have := due_from (spots := marksU 1 1 ns n) (least := least) (many := (n : Int)) (N := (((n : Int) + least - 1) / least).toNat) h1 h5 (by omega) (marks_every n) (marksU_asc n) (by omega) _ 0 (Nat.zero_add _)
  rw [List.range_eq_range', ← this, Int.natCast_zero, Int.mul_zero]
end K45
end Ly
namespace Ly
open PySem
namespace M46
open K45
/-! ### data of ints compared -/
theorem eqvAll_ints : ∀ a b : List Int, PyData.eqvAll (a.map .int) (b.map .int) = decide (a = b)
  | [], [] => by simp [PyData.eqvAll]
  | [], _ :: _ => by simp [PyData.eqvAll]
  | _ :: _, [] => by simp [PyData.eqvAll]
  | x :: a, y :: b => by
    have ih := eqvAll_ints a b
    simp only [List.map_cons, PyData.eqvAll, ih]
    by_cases h : x = y
    · subst h
      by_cases h2 : a = b
      · subst h2
        simp [PyData.eqv]
      · simp [PyData.eqv, h2]
    · simp [PyData.eqv, h]
theorem eqv_octs (a b : List Int) : PyData.eqv (.tuple (a.map .int)) (.tuple (b.map .int)) = decide (a = b) := by
  simp only [PyData.eqv]
  exact eqvAll_ints a b
theorem any_octs (cs : List (List Int)) (c : List Int) : ((cs.map fun c => PyData.tuple (c.map .int)).any fun z => PyData.eqv z (.tuple (c.map .int))) = decide (c ∈ cs) := by
  rw [List.any_map]
  induction cs with
  | nil => simp
  | cons x cs ih =>
    rw [List.any_cons, ih]
    show (PyData.eqv (.tuple (x.map .int)) (.tuple (c.map .int)) || _) = _
    rw [eqv_octs]
    by_cases h : x = c
    · subst h
      simp
    · have h' : ¬ c = x := fun e => h e.symm
      simp [h, h']
theorem any_ints (cs : List Int) (c : Int) : ((cs.map PyData.int).any fun z => PyData.eqv z (.int c)) = decide (c ∈ cs) := by
  rw [List.any_map]
  induction cs with
  | nil => simp
  | cons x cs ih =>
    rw [List.any_cons, ih]
    by_cases h : x = c
    · subst h
      simp [PyData.eqv]
    · have h' : ¬ c = x := fun e => h e.symm
      simp [PyData.eqv, h, h']
/-! ### counting a row of places -/
theorem count_down {Q : Nat → Bool} {n k : Nat} (hk : k ≤ n) (h : ∀ j, j < n → (Q j = true ↔ j < k)) : ((List.range n).filter Q).length = k := by
  have : (List.range n).filter Q = List.range k := by
    induction n generalizing k with
    | zero =>
      have : k = 0 := by omega
      subst this
      rfl
    | succ n ih =>
      rw [List.range_succ, List.filter_append]
      by_cases hkn : k ≤ n
      · rw [ih hkn fun j hj => h j (by omega)]
        have hq : Q n = false := by
          cases e : Q n with
          | false => rfl
          | true => have := (h n (by omega)).mp e; omega
        simp [hq]
      · have e : k = n + 1 := by omega
        subst e
        rw [ih (Nat.le_refl n) fun j hj => ⟨fun _ => hj, fun _ => (h j (by omega)).mpr (by omega)⟩]
        have hq : Q n = true := (h n (by omega)).mpr (by omega)
        simp [hq, List.range_succ]
  rw [this, List.length_range]
/-! ### ends that are alike -/
/-- the last s of a -/
def lastN (a : List Int) (s : Nat) : List Int := a.drop (a.length - s)
theorem lastN_len {a : List Int} {s : Nat} (h : s ≤ a.length) : (lastN a s).length = s := by
  unfold lastN
  rw [List.length_drop]
  omega
theorem lastN_succ {a : List Int} {s : Nat} {x : Int} (h : s < a.length) (hx : a[a.length - s - 1]? = some x) : lastN a (s + 1) = x :: lastN a s := by
  unfold lastN
  have hl : a.length - (s + 1) < a.length := by omega
  rw [List.drop_eq_getElem_cons hl]
  rw [show a.length - (s + 1) + 1 = a.length - s by omega]
  congr 1
  rw [show a.length - s - 1 = a.length - (s + 1) by omega, List.getElem?_eq_getElem hl] at hx
  exact Option.some.inj hx
theorem lastN_less {a b : List Int} {s t : Nat} (h : lastN a s = lastN b s) (hs : s ≤ a.length) (hs2 : s ≤ b.length) (ht : t ≤ s) : lastN a t = lastN b t := by
  have e : ∀ c : List Int, s ≤ c.length → lastN c t = (lastN c s).drop (s - t) := fun c hc => by
    unfold lastN
    rw [List.drop_drop]
    congr 1
    omega
  rw [e a hs, e b hs2, h]
/-- s of them, no more -/
structure Ends (a b : List Int) (s : Nat) : Prop where
  la : s ≤ a.length
  lb : s ≤ b.length
  eq : lastN a s = lastN b s
theorem Ends.iff {a b : List Int} {s : Nat} (h : Ends a b s) (hm : s = min a.length b.length ∨ (s < a.length ∧ s < b.length ∧ a[a.length - s - 1]? ≠ b[b.length - s - 1]?)) {t : Nat} (ha : t ≤ a.length) (hb : t ≤ b.length) : lastN a t = lastN b t ↔ t ≤ s := by
  refine ⟨fun e => ?_, fun e => lastN_less h.eq h.la h.lb e⟩
  rcases hm with hm | ⟨h1, h2, h3⟩
  · omega
  · rcases Nat.lt_or_ge s t with hlt | hge
    · exfalso
      have e2 := lastN_less e ha hb (show s + 1 ≤ t from hlt)
      obtain ⟨x, hx⟩ : ∃ x, a[a.length - s - 1]? = some x := ⟨_, List.getElem?_eq_getElem (by omega)⟩
      obtain ⟨y, hy⟩ : ∃ y, b[b.length - s - 1]? = some y := ⟨_, List.getElem?_eq_getElem (by omega)⟩
      rw [lastN_succ h1 hx, lastN_succ h2 hy] at e2
      rw [hx, hy] at h3
      exact h3 (congrArg some (List.cons_eq_cons.mp e2).1)
    · exact hge
/-! ### pieces that are alike, from the first on -/
def sumL (xs : List (List Int)) : Nat := (xs.map List.length).sum
theorem sumL_append (xs ys : List (List Int)) : sumL (xs ++ ys) = sumL xs + sumL ys := by
  unfold sumL
  rw [List.map_append, List.sum_append]
theorem sumL_flat (xs : List (List Int)) : sumL xs = xs.flatten.length := by
  unfold sumL
  rw [List.length_flatten]
theorem sumL_take_le (xs : List (List Int)) {i j : Nat} (h : i ≤ j) : sumL (xs.take i) ≤ sumL (xs.take j) := by
  have e : xs.take j = xs.take i ++ (xs.drop i).take (j - i) := by
    rw [← List.take_add]
    congr 1
    omega
  rw [e, sumL_append]
  omega
structure Pre (xs ys : List (List Int)) (s i : Nat) : Prop where
  lx : i ≤ xs.length
  ly : i ≤ ys.length
  eq : xs.take i = ys.take i
  sz : sumL (xs.take i) ≤ s
theorem Pre.iff {xs ys : List (List Int)} {s i : Nat} (h : Pre xs ys s i) (hm : i = min xs.length ys.length ∨ (∃ x y, xs[i]? = some x ∧ ys[i]? = some y ∧ (x ≠ y ∨ s < sumL (xs.take i) + x.length))) {t : Nat} (hx : t ≤ xs.length) (hy : t ≤ ys.length) :
    (xs.take t = ys.take t ∧ sumL (xs.take t) ≤ s) ↔ t ≤ i := by
  refine ⟨fun e => ?_, fun e => ⟨?_, ?_⟩⟩
  · rcases hm with hm | ⟨x, y, h1, h2, h3⟩
    · omega
    · rcases Nat.lt_or_ge i t with hlt | hge
      · exfalso
        have e1 : xs.take (i + 1) = ys.take (i + 1) := by
          have := congrArg (List.take (i + 1)) e.1
          rwa [List.take_take, List.take_take, Nat.min_eq_left hlt] at this
        have ex : xs.take (i + 1) = xs.take i ++ [x] := by rw [List.take_add_one, h1]; rfl
        have ey : ys.take (i + 1) = ys.take i ++ [y] := by rw [List.take_add_one, h2]; rfl
        rw [ex, ey, h.eq] at e1
        have exy : x = y := by
          have := List.append_cancel_left e1
          exact (List.cons_eq_cons.mp this).1
        rcases h3 with h3 | h3
        · exact h3 exy
        · have := sumL_take_le xs (show i + 1 ≤ t from hlt)
          rw [ex, sumL_append] at this
          have e2 : sumL [x] = x.length := by simp [sumL]
          omega
      · exact hge
  · have := congrArg (List.take t) h.eq
    rwa [List.take_take, List.take_take, Nat.min_eq_left e] at this
  · exact Nat.le_trans (sumL_take_le xs e) h.sz
/-! ### cuts behind a common cut -/
theorem asc_ext : ∀ {xs ys : List Int}, xs.Pairwise (· < ·) → ys.Pairwise (· < ·) → (∀ z, z ∈ xs ↔ z ∈ ys) → xs = ys
  | [], [], _, _, _ => rfl
  | [], y :: ys, _, _, h => by have := (h y).mpr List.mem_cons_self; cases this
  | x :: xs, [], _, _, h => by have := (h x).mp List.mem_cons_self; cases this
  | x :: xs, y :: ys, hx, hy, h => by
    rw [List.pairwise_cons] at hx hy
    have exy : x = y := by
      rcases List.mem_cons.mp ((h x).mp List.mem_cons_self) with e | e
      · exact e
      · have h1 := hy.1 x e
        rcases List.mem_cons.mp ((h y).mpr List.mem_cons_self) with e2 | e2
        · exact e2.symm
        · have h2 := hx.1 y e2
          omega
    subst exy
    congr 1
    refine asc_ext hx.2 hy.2 fun z => ⟨fun m => ?_, fun m => ?_⟩
    · rcases List.mem_cons.mp ((h z).mp (List.mem_cons_of_mem _ m)) with e | e
      · have := hx.1 z m
        omega
      · exact e
    · rcases List.mem_cons.mp ((h z).mpr (List.mem_cons_of_mem _ m)) with e | e
      · have := hy.1 z m
        omega
      · exact e
theorem marks_iff {w : Nat} {p : Int} {ns : List Int} {m : Int} : ∀ {n : Nat}, m ∈ marksU w p ns n ↔ ∃ k : Nat, 1 ≤ k ∧ k ≤ n ∧ m = (k : Int) ∧ isMark w p ns k = true
  | 0 => ⟨fun h => (by cases h), fun ⟨k, h1, h2, _⟩ => (by omega)⟩
  | n + 1 => by
    unfold marksU
    rw [List.mem_append, marks_iff (n := n)]
    constructor
    · rintro (⟨k, h1, h2, h3, h4⟩ | h)
      · exact ⟨k, h1, by omega, h3, h4⟩
      · split at h
        · rename_i hm
          exact ⟨n + 1, by omega, Nat.le_refl _, by simpa using h, hm⟩
        · cases h
    · rintro ⟨k, h1, h2, h3, h4⟩
      rcases Nat.lt_or_ge n k with hk | hk
      · have e : k = n + 1 := by omega
        subst e
        right
        rw [if_pos h4, h3]
        exact List.mem_cons_self
      · exact .inl ⟨k, h1, hk, h3, h4⟩
theorem win_eq {w k : Nat} {ns : List Int} (h : w ≤ k) : win w ns k = (ns.drop (k - w)).take w := by
  unfold win
  rw [List.drop_take]
  congr 1
  omega
/-- a mark whose window lies in the common end -/
theorem mark_end {a b : List Int} {s w ka kb : Nat} {p : Int} (h : Ends a b s) (hd : ka + b.length = kb + a.length) (hw : a.length + w ≤ ka + s) : isMark w p a ka = isMark w p b kb := by
  have hla := h.la
  have hlb := h.lb
  have e1 : win w a ka = win w b kb := by
    rw [win_eq (by omega), win_eq (by omega)]
    have d : ∀ (c : List Int) (k : Nat), s ≤ c.length → c.length + w ≤ k + s → c.drop (k - w) = (lastN c s).drop (k - w - (c.length - s)) := fun c k h1 h2 => by
      unfold lastN
      rw [List.drop_drop]
      congr 1
      omega
    rw [d a ka hla hw, d b kb hlb (by omega), h.eq]
    congr 2
    omega
  unfold isMark
  rw [e1, decide_eq_true (show w ≤ ka by omega), decide_eq_true (show w ≤ kb by omega)]
/-- the shift -/
structure Alike (s1 s2 : List Int) (c0 A B : Int) : Prop where
  asc1 : s1.Pairwise (· < ·)
  asc2 : s2.Pairwise (· < ·)
  iff : ∀ z, c0 < z → (z ∈ s1 ↔ z + (B - A) ∈ s2)
theorem good_shift {s1 s2 : List Int} {c0 A B b l m : Int} (h : Alike s1 s2 c0 A B) (hb : c0 ≤ b) (hl : 1 ≤ l) : good s2 (b + (B - A) + l) (b + (B - A) + m) = (good s1 (b + l) (b + m)).map (· + (B - A)) := by
  refine asc_ext (h.asc2.filter _) ?_ fun z => ?_
  · rw [List.pairwise_map]
    refine (h.asc1.filter _).imp fun {x y} hxy => ?_
    show x + (B - A) < y + (B - A)
    omega
  · unfold good
    rw [List.mem_map]
    constructor
    · intro hz
      obtain ⟨h1, h2⟩ := List.mem_filter.mp hz
      simp at h2
      refine ⟨z - (B - A), List.mem_filter.mpr ⟨?_, by simp; omega⟩, by omega⟩
      rw [h.iff _ (by omega), show z - (B - A) + (B - A) = z by omega]
      exact h1
    · rintro ⟨y, hy, rfl⟩
      obtain ⟨h1, h2⟩ := List.mem_filter.mp hy
      simp at h2
      exact List.mem_filter.mpr ⟨(h.iff y (by omega)).mp h1, by simp; omega⟩
theorem next_shift {s1 s2 : List Int} {c0 A B b l m : Int} (h : Alike s1 s2 c0 A B) (hb : c0 ≤ b) (hl : 1 ≤ l) : nextCut s2 l m B (b + (B - A)) = nextCut s1 l m A b + (B - A) := by
  unfold nextCut
  rw [good_shift h hb hl]
  cases good s1 (b + l) (b + m) with
  | nil =>
    show (if B < b + (B - A) + m then B else b + (B - A) + m) = (if A < b + m then A else b + m) + (B - A)
    split <;> split <;> omega
  | cons g r =>
    show (if B < g + (B - A) then B else g + (B - A)) = (if A < g then A else g) + (B - A)
    split <;> split <;> omega
theorem cutsN_shift {s1 s2 : List Int} {c0 A B l m : Int} (h : Alike s1 s2 c0 A B) (hl : 1 ≤ l) (hlm : l ≤ m) : ∀ (n : Nat) (b : Int), c0 ≤ b → cutsN s2 l m B n (b + (B - A)) = (cutsN s1 l m A n b).map (· + (B - A))
  | 0, _, _ => rfl
  | n + 1, b, hb => by
    rw [cutsN_succ, cutsN_succ, next_shift h hb hl]
    by_cases hbA : b < A
    · have hg := nextCut_ge (spots := s1) hl hlm hbA
      rw [if_pos hbA, if_pos (by omega), List.map_cons, cutsN_shift h hl hlm n _ (by omega)]
    · rw [if_neg hbA, if_neg (by omega)]
      rfl
theorem cutsL_shift {s1 s2 : List Int} {c0 A B l m b : Int} (h : Alike s1 s2 c0 A B) (hl : 1 ≤ l) (hlm : l ≤ m) (hb : c0 ≤ b) : cutsL s2 l m B (b + (B - A)) = (cutsL s1 l m A b).map (· + (B - A)) := by
  unfold cutsL
  rw [show (B - (b + (B - A))).toNat = (A - b).toNat by omega]
  exact cutsN_shift h hl hlm _ b hb
theorem Cuts.gt {l m len b : Int} {cs : List Int} (hl : 1 ≤ l) (h : Cuts l m len b cs) : ∀ c ∈ cs, b < c ∧ c ≤ len := by
  induction h with
  | nil => intro c hc; cases hc
  | last h1 h2 =>
    intro c hc
    rw [List.mem_singleton.mp hc]
    omega
  | cons h1 h2 h3 h4 ih =>
    intro c hc
    rcases List.mem_cons.mp hc with rfl | hc
    · omega
    · have := ih c hc
      omega

theorem cutsL_from {sp : List Int} {l m len c0 : Int} (hl : 1 ≤ l) (hlm : l ≤ m) : ∀ (n : Nat) (b : Int), (len - b).toNat ≤ n → b ≤ len → c0 ∈ cutsL sp l m len b → (cutsL sp l m len b).filter (fun c => decide (c0 ≤ c)) = c0 :: cutsL sp l m len c0
  | 0, b, hn, hb, h => by
    have e : b = len := by omega
    subst e
    rw [cutsL_eq hl hlm, if_neg (by omega)] at h
    cases h
  | n + 1, b, hn, hb, h => by
    rw [cutsL_eq hl hlm] at h ⊢
    by_cases hbl : b < len
    · rw [if_pos hbl] at h ⊢
      have hg := nextCut_ge (spots := sp) hl hlm hbl
      have hC := cutsL_cuts (spots := sp) (b := nextCut sp l m len b) (len := len) hl hlm hg.2
      rcases List.mem_cons.mp h with e | e
      · rw [← e, List.filter_cons, if_pos (by simp)]
        congr 1
        rw [List.filter_eq_self]
        intro c hc
        rw [← e] at hC
        have := Cuts.gt hl hC c hc
        simp
        omega
      · have hlt := Cuts.gt hl hC c0 e
        rw [List.filter_cons, if_neg (by simp; omega)]
        exact cutsL_from hl hlm n _ (by omega) hg.2 e
    · rw [if_neg hbl] at h
      cases h
theorem alike_of {a b : List Int} {s w : Nat} {p c0 : Int} (hw1 : 1 ≤ w) (h : Ends a b s) (h0 : 0 ≤ c0) (hc : (a.length : Int) + (w : Int) ≤ c0 + 1 + (s : Int)) :
    Alike (marksU w p a a.length) (marksU w p b b.length) c0 (a.length : Int) (b.length : Int) := by
  have hla := h.la
  have hlb := h.lb
  refine ⟨marksU_asc _, marksU_asc _, fun z hz => ?_⟩
  rw [marks_iff, marks_iff]
  constructor
  · rintro ⟨k, h1, h2, rfl, h4⟩
    have hk : 0 ≤ (k : Int) + ((b.length : Int) - (a.length : Int)) := by omega
    refine ⟨((k : Int) + ((b.length : Int) - (a.length : Int))).toNat, by omega, by omega, by omega, ?_⟩
    have q1 : k + b.length = ((k : Int) + ((b.length : Int) - (a.length : Int))).toNat + a.length := by omega
    rw [← mark_end h q1 (by omega)]
    exact h4
  · rintro ⟨k, h1, h2, h3, h4⟩
    refine ⟨z.toNat, by omega, by omega, by omega, ?_⟩
    rw [mark_end h (ka := z.toNat) (kb := k) (by omega) (by omega)]
    exact h4
/-- cut alike, behind a place where both are cut -/
theorem backs_alike {a b : List Int} {s w : Nat} {p l m c0 : Int} (hw1 : 1 ≤ w) (hl : 1 ≤ l) (hlm : l ≤ m) (h : Ends a b s) (hw : (a.length : Int) - c0 + (w : Int) ≤ (s : Int))
    (h1 : c0 ∈ cutsL (marksU w p a a.length) l m (a.length : Int) 0) (h2 : (b.length : Int) - ((a.length : Int) - c0) ∈ cutsL (marksU w p b b.length) l m (b.length : Int) 0) :
    ((cutsL (marksU w p a a.length) l m (a.length : Int) 0).filter fun c => decide ((a.length : Int) - c ≤ (a.length : Int) - c0)).map (fun c => (a.length : Int) - c) =
      ((cutsL (marksU w p b b.length) l m (b.length : Int) 0).filter fun c => decide ((b.length : Int) - c ≤ (a.length : Int) - c0)).map (fun c => (b.length : Int) - c) := by
  have hC := Cuts.gt hl (cutsL_cuts (spots := marksU w p a a.length) (len := (a.length : Int)) (b := 0) hl hlm (by omega)) c0 h1
  have e1 := cutsL_from hl hlm _ 0 (Nat.le_refl _) (by omega) h1
  have e2 := cutsL_from hl hlm _ 0 (Nat.le_refl _) (by omega) h2
  have f1 : (fun c : Int => decide ((a.length : Int) - c ≤ (a.length : Int) - c0)) = fun c => decide (c0 ≤ c) := by
    funext c
    exact decide_eq_decide.mpr (by omega)
  have f2 : (fun c : Int => decide ((b.length : Int) - c ≤ (a.length : Int) - c0)) = fun c => decide ((b.length : Int) - ((a.length : Int) - c0) ≤ c) := by
    funext c
    exact decide_eq_decide.mpr (by omega)
  rw [f1, f2, e1, e2]
  have hs := cutsL_shift (l := l) (m := m) (b := c0) (alike_of (w := w) (p := p) hw1 h (by omega) (by omega)) hl hlm (Int.le_refl c0)
  rw [show (b.length : Int) - ((a.length : Int) - c0) = c0 + ((b.length : Int) - (a.length : Int)) by omega, hs]
  rw [List.map_cons, List.map_cons, List.map_map]
  congr 1
  · omega
  · apply List.map_congr_left
    intro c _
    show _ = (b.length : Int) - (c + ((b.length : Int) - (a.length : Int)))
    omega
/-! ### pieces that are lacking -/
def lackL (known : List (List Int)) : List (List Int) → List (List Int) → List (List Int)
  | acc, [] => acc
  | acc, c :: cs => lackL known (if c ∈ known ∨ c ∈ acc then acc else acc ++ [c]) cs
theorem lackL_snoc (known : List (List Int)) (c : List Int) : ∀ (cs acc : List (List Int)), lackL known acc (cs ++ [c]) = if c ∈ known ∨ c ∈ lackL known acc cs then lackL known acc cs else lackL known acc cs ++ [c]
  | [], acc => rfl
  | d :: cs, acc => by
    show lackL known _ (cs ++ [c]) = _
    rw [lackL_snoc known c cs]
    rfl
theorem lackL_none (known : List (List Int)) : ∀ (cs acc : List (List Int)), (∀ c ∈ cs, c ∈ known) → lackL known acc cs = acc
  | [], _, _ => rfl
  | c :: cs, acc, h => by
    show lackL known (if c ∈ known ∨ c ∈ acc then acc else acc ++ [c]) cs = acc
    rw [if_pos (.inl (h c List.mem_cons_self))]
    exact lackL_none known cs acc fun x hx => h x (List.mem_cons_of_mem _ hx)
theorem lackL_acc (known : List (List Int)) : ∀ (cs acc : List (List Int)) (x : List Int), x ∈ acc → x ∈ lackL known acc cs
  | [], _, _, h => h
  | c :: cs, acc, x, h => by
    refine lackL_acc known cs _ x ?_
    split
    · exact h
    · exact List.mem_append.mpr (.inl h)
theorem lackL_all (known : List (List Int)) : ∀ (cs acc : List (List Int)), ∀ c ∈ cs, c ∈ known ∨ c ∈ lackL known acc cs
  | c :: cs, acc, x, h => by
    rcases List.mem_cons.mp h with rfl | h
    · by_cases hk : x ∈ known
      · exact .inl hk
      · right
        show x ∈ lackL known (if x ∈ known ∨ x ∈ acc then acc else acc ++ [x]) cs
        refine lackL_acc known cs _ x ?_
        split
        · rename_i q
          rcases q with q | q
          · exact absurd q hk
          · exact q
        · exact List.mem_append.mpr (.inr List.mem_cons_self)
    · exact lackL_all known cs _ x h
theorem lackL_sub (known : List (List Int)) : ∀ (cs acc : List (List Int)), ∀ c ∈ lackL known acc cs, c ∈ acc ∨ c ∈ cs
  | [], acc, x, h => .inl h
  | c :: cs, acc, x, h => by
    rcases lackL_sub known cs _ x h with q | q
    · split at q
      · exact .inl q
      · rcases List.mem_append.mp q with q | q
        · exact .inl q
        · right
          rw [List.mem_singleton.mp q]
          exact List.mem_cons_self
    · exact .inr (List.mem_cons_of_mem _ q)
theorem lackL_len (known : List (List Int)) : ∀ (cs acc : List (List Int)), (lackL known acc cs).length ≤ acc.length + cs.length
  | [], acc => Nat.le_refl _
  | c :: cs, acc => by
    have := lackL_len known cs (if c ∈ known ∨ c ∈ acc then acc else acc ++ [c])
    show (lackL known _ cs).length ≤ _
    rw [List.length_cons]
    split at this
    · rw [if_pos (by assumption)]
      omega
    · rw [if_neg (by assumption)]
      rw [List.length_append] at this
      simp at this
      omega
/-! ### an octet put in front -/
theorem numD_nine : numD [9] = 10 := by decide
theorem mark_front {p : Int} {ns : List Int} {k : Nat} (x : Int) (hk : 1 ≤ k) : isMark 1 p (x :: ns) (k + 1) = isMark 1 p ns k := by
  unfold isMark
  have : win 1 (x :: ns) (k + 1) = win 1 ns k := by
    rw [win_eq (by omega), win_eq hk]
    rw [show k + 1 - 1 = (k - 1) + 1 by omega, List.drop_succ_cons]
  rw [this, decide_eq_true (show 1 ≤ k + 1 by omega), decide_eq_true hk]
theorem front_marks {ns : List Int} : Alike (marksU 1 3 ns ns.length) (marksU 1 3 (9 :: ns) (9 :: ns).length) 0 (ns.length : Int) ((9 :: ns).length : Int) := by
  refine ⟨marksU_asc _, marksU_asc _, fun z hz => ?_⟩
  rw [marks_iff, marks_iff, List.length_cons]
  constructor
  · rintro ⟨k, h1, h2, rfl, h4⟩
    exact ⟨k + 1, by omega, by omega, by omega, by rw [mark_front 9 h1]; exact h4⟩
  · rintro ⟨k, h1, h2, h3, h4⟩
    refine ⟨k - 1, by omega, by omega, by omega, ?_⟩
    rw [← mark_front 9 (show 1 ≤ k - 1 by omega), show k - 1 + 1 = k by omega]
    exact h4
theorem front_none {ns : List Int} : (1 : Int) ∉ marksU 1 3 (9 :: ns) (9 :: ns).length := by
  rw [marks_iff]
  rintro ⟨k, h1, h2, h3, h4⟩
  have e : k = 1 := by omega
  subst e
  unfold isMark at h4
  have : win 1 (9 :: ns) 1 = [9] := by rw [win_eq (by omega)]; rfl
  rw [this, numD_nine] at h4
  simp at h4
/-- the first cut moves by one, so do all others -/
theorem front_cuts {ns : List Int} (h0 : ns ≠ []) (hl : ns.length ≤ 511) : cutsL (marksU 1 3 (9 :: ns) (9 :: ns).length) 1 512 ((9 :: ns).length : Int) 0 = (cutsL (marksU 1 3 ns ns.length) 1 512 (ns.length : Int) 0).map (· + 1) := by
  have hp : 0 < ns.length := List.length_pos_iff.mpr h0
  have hlen : ((9 :: ns).length : Int) = (ns.length : Int) + 1 := by rw [List.length_cons]; omega
  have hd : ((9 :: ns).length : Int) - (ns.length : Int) = 1 := by omega
  rw [cutsL_eq (by decide) (by decide), cutsL_eq (spots := marksU 1 3 ns ns.length) (by decide) (by decide), if_pos (by omega), if_pos (by omega)]
  have A := front_marks (ns := ns)
  have eg : good (marksU 1 3 (9 :: ns) (9 :: ns).length) (0 + 1) (0 + 512) = (good (marksU 1 3 ns ns.length) (0 + 1) (0 + 512)).map (· + 1) := by
    refine asc_ext (A.asc2.filter _) ?_ fun z => ?_
    · rw [List.pairwise_map]
      refine (A.asc1.filter _).imp fun {x y} hxy => ?_
      show x + 1 < y + 1
      omega
    · unfold good
      rw [List.mem_map]
      constructor
      · intro hz
        obtain ⟨h1, h2⟩ := List.mem_filter.mp hz
        simp at h2
        have h3 : z ≠ 1 := fun e => front_none (ns := ns) (e ▸ h1)
        refine ⟨z - 1, List.mem_filter.mpr ⟨?_, by simp; omega⟩, by omega⟩
        rw [A.iff _ (by omega), hd, show z - 1 + 1 = z by omega]
        exact h1
      · rintro ⟨y, hy, rfl⟩
        obtain ⟨h1, h2⟩ := List.mem_filter.mp hy
        simp at h2
        have hy2 := (marksU_mem h1).2
        have := (A.iff y (by omega)).mp h1
        rw [hd] at this
        exact List.mem_filter.mpr ⟨this, by simp; omega⟩
  have en : nextCut (marksU 1 3 (9 :: ns) (9 :: ns).length) 1 512 ((9 :: ns).length : Int) 0 = nextCut (marksU 1 3 ns ns.length) 1 512 (ns.length : Int) 0 + 1 := by
    unfold nextCut
    rw [eg]
    cases good (marksU 1 3 ns ns.length) (0 + 1) (0 + 512) with
    | nil =>
      show (if ((9 :: ns).length : Int) < 0 + 512 then ((9 :: ns).length : Int) else 0 + 512) = (if (ns.length : Int) < 0 + 512 then (ns.length : Int) else 0 + 512) + 1
      split <;> split <;> omega
    | cons g r =>
      show (if ((9 :: ns).length : Int) < g + 1 then ((9 :: ns).length : Int) else g + 1) = (if (ns.length : Int) < g then (ns.length : Int) else g) + 1
      split <;> split <;> omega
  have hg := nextCut_ge (spots := marksU 1 3 ns ns.length) (least := 1) (most := 512) (len := (ns.length : Int)) (b := 0) (by decide) (by decide) (by omega)
  have hs := cutsL_shift (l := 1) (m := 512) (b := nextCut (marksU 1 3 ns ns.length) 1 512 (ns.length : Int) 0) A (by decide) (by decide) (by omega)
  rw [hd] at hs
  rw [en, hs, List.map_cons]
theorem chunks_front {ns : List Int} (x : Int) : ∀ (b : Int) (cs : List Int), 0 ≤ b → (∀ c ∈ cs, 0 ≤ c) → chunksL (x :: ns) (b + 1) (cs.map (· + 1)) = chunksL ns b cs
  | b, [], _, _ => rfl
  | b, c :: cs, hb, h => by
    show sl (x :: ns) (b + 1) (c + 1) :: chunksL (x :: ns) (c + 1) (cs.map (· + 1)) = sl ns b c :: chunksL ns c cs
    have hc := h c List.mem_cons_self
    rw [chunks_front x c cs hc fun y hy => h y (List.mem_cons_of_mem _ hy)]
    congr 1
    unfold sl
    rw [show (b + 1).toNat = b.toNat + 1 by omega, List.drop_succ_cons, show (c + 1).toNat - (b.toNat + 1) = c.toNat - b.toNat by omega]
theorem front_chunks {ns : List Int} (h0 : ns ≠ []) (hl : ns.length ≤ 511) : ∃ c r, chunksL ns 0 (cutsL (marksU 1 3 ns ns.length) 1 512 (ns.length : Int) 0) = c :: r ∧
    chunksL (9 :: ns) 0 (cutsL (marksU 1 3 (9 :: ns) (9 :: ns).length) 1 512 ((9 :: ns).length : Int) 0) = (9 :: c) :: r := by
  have hp : 0 < ns.length := List.length_pos_iff.mpr h0
  rw [front_cuts h0 hl, cutsL_eq (by decide) (by decide), if_pos (by omega)]
  have hg := nextCut_ge (spots := marksU 1 3 ns ns.length) (least := 1) (most := 512) (len := (ns.length : Int)) (b := 0) (by decide) (by decide) (by omega)
  have hC := Cuts.gt (by decide) (cutsL_cuts (spots := marksU 1 3 ns ns.length) (least := 1) (most := 512) (len := (ns.length : Int)) (b := nextCut (marksU 1 3 ns ns.length) 1 512 (ns.length : Int) 0) (by decide) (by decide) hg.2)
  generalize nextCut (marksU 1 3 ns ns.length) 1 512 (ns.length : Int) 0 = g at hg hC
  generalize cutsL (marksU 1 3 ns ns.length) 1 512 (ns.length : Int) g = cs at hC
  refine ⟨sl ns 0 g, chunksL ns g cs, rfl, ?_⟩
  show sl (9 :: ns) 0 (g + 1) :: chunksL (9 :: ns) (g + 1) (cs.map (· + 1)) = _
  rw [chunks_front 9 g cs (by omega) fun c hc => by have := hC c hc; omega]
  congr 1
  unfold sl
  rw [show (g + 1).toNat - (0 : Int).toNat = (g.toNat - (0 : Int).toNat) + 1 by simp; omega]
  rfl
end M46
end Ly
namespace Ly
open PySem
namespace M47
/-! ### steps and prices -/
/-- a chunk stands at a place -/
def hit (octs : List Int) (at' : Nat) (k : List Int) : Bool := decide ((octs.drop at').take k.length = k)
/-- a step: its price, where it ends, the chunk's index -/
abbrev Row := Int × Nat × Option Nat
def stepsU (ks : List (List Int)) (octs : List Int) (f : Int) (at' : Nat) : List Row :=
  (1, at' + 1, none) :: (ks.zipIdx.filter fun p => hit octs at' p.1).map fun p => (f, at' + p.1.length, some p.2)
abbrev Tab := List (Int × Option (Nat × Option Nat))
def priceAt (t : Tab) (i : Nat) : Int := match t[i]? with | some p => p.1 | none => 0
def lowest : List Int → Int
  | [] => 0
  | [x] => x
  | x :: y :: r => let m := lowest (y :: r); if x ≤ m then x else m
theorem lowest_le : ∀ {xs : List Int}, ∀ x ∈ xs, lowest xs ≤ x
  | [], x, h => by cases h
  | [y], x, h => by rw [List.mem_singleton.mp h]; exact Int.le_refl _
  | a :: b :: r, x, h => by
    have ih := lowest_le (xs := b :: r)
    show (if a ≤ lowest (b :: r) then a else lowest (b :: r)) ≤ x
    rcases List.mem_cons.mp h with rfl | h
    · split <;> omega
    · have := ih x h
      split <;> omega
theorem lowest_mem : ∀ {xs : List Int}, xs ≠ [] → lowest xs ∈ xs
  | [], h => (h rfl).elim
  | [y], _ => List.mem_singleton.mpr rfl
  | a :: b :: r, _ => by
    have ih := lowest_mem (xs := b :: r) (List.cons_ne_nil _ _)
    show (if a ≤ lowest (b :: r) then a else lowest (b :: r)) ∈ _
    split
    · exact List.mem_cons_self
    · exact List.mem_cons_of_mem _ ih
theorem lowest_eq {xs : List Int} {m : Int} (hm : m ∈ xs) (hle : ∀ x ∈ xs, m ≤ x) : lowest xs = m := by
  have h1 := lowest_le m hm
  have h2 := hle _ (lowest_mem (xs := xs) (fun e => by rw [e] at hm; cases hm))
  omega
/-- the prices of the steps from a place on, t told for what is behind it -/
def pricedU (ks : List (List Int)) (octs : List Int) (f : Int) (t : Tab) (at' : Nat) : List Row :=
  (stepsU ks octs f at').map fun r => (r.1 + priceAt t (octs.length - r.2.1), r.2.1, r.2.2)
def firstOf (rows : List Row) (m : Int) : Option (Nat × Option Nat) := (rows.find? fun r => decide (r.1 = m)).map (·.2)
def tabU (ks : List (List Int)) (octs : List Int) (f : Int) : Nat → Tab
  | 0 => [(0, none)]
  | j + 1 =>
    let t := tabU ks octs f j
    let rows := pricedU ks octs f t (octs.length - 1 - j)
    t ++ [(lowest (rows.map (·.1)), firstOf rows (lowest (rows.map (·.1))))]
theorem tabU_len (ks : List (List Int)) (octs : List Int) (f : Int) : ∀ j, (tabU ks octs f j).length = j + 1
  | 0 => rfl
  | j + 1 => by
    show (tabU ks octs f j ++ [_]).length = _
    rw [List.length_append, tabU_len ks octs f j]
    rfl
theorem tabU_get {ks : List (List Int)} {octs : List Int} {f : Int} {i : Nat} : ∀ {j}, i ≤ j → (tabU ks octs f j)[i]? = (tabU ks octs f i)[i]?
  | 0, h => by
    have : i = 0 := by omega
    subst this
    rfl
  | j + 1, h => by
    rcases Nat.lt_or_ge j i with hj | hj
    · have : i = j + 1 := by omega
      subst this
      rfl
    · show (tabU ks octs f j ++ [_])[i]? = _
      rw [List.getElem?_append_left (by rw [tabU_len]; omega)]
      exact tabU_get hj
/-- the least price of the last i octets -/
def pr (ks : List (List Int)) (octs : List Int) (f : Int) (i : Nat) : Int := priceAt (tabU ks octs f i) i
theorem pr_at {ks : List (List Int)} {octs : List Int} {f : Int} {i j : Nat} (h : i ≤ j) : priceAt (tabU ks octs f j) i = pr ks octs f i := by
  unfold pr priceAt
  rw [tabU_get h]
theorem pr_zero {ks : List (List Int)} {octs : List Int} {f : Int} : pr ks octs f 0 = 0 := rfl
/-- known chunks: none is empty -/
structure Kn (ks : List (List Int)) : Prop where
  ne : ∀ k ∈ ks, k ≠ []
theorem hit_end {octs : List Int} {at' : Nat} {k : List Int} (h : hit octs at' k = true) (hk : k ≠ []) : at' + k.length ≤ octs.length := by
  have h := of_decide_eq_true h
  have := congrArg List.length h
  rw [List.length_take, List.length_drop] at this
  have := List.length_pos_iff.mpr hk
  omega
theorem steps_end {ks : List (List Int)} {octs : List Int} {f : Int} {at' : Nat} (hk : Kn ks) (ha : at' < octs.length) : ∀ r ∈ stepsU ks octs f at', at' < r.2.1 ∧ r.2.1 ≤ octs.length := by
  intro r hr
  rcases List.mem_cons.mp hr with rfl | hr
  · exact ⟨Nat.lt_succ_self _, ha⟩
  · obtain ⟨p, hp, rfl⟩ := List.mem_map.mp hr
    obtain ⟨h1, h2⟩ := List.mem_filter.mp hp
    have hm : p.1 ∈ ks := (List.mem_zipIdx' h1).2 ▸ List.getElem_mem _
    have hne := hk.ne _ hm
    have := List.length_pos_iff.mpr hne
    exact ⟨by show at' < at' + p.1.length; omega, hit_end h2 hne⟩
/-- the price of a step and of what is behind it -/
def full (ks : List (List Int)) (octs : List Int) (f : Int) (r : Row) : Int := r.1 + pr ks octs f (octs.length - r.2.1)
theorem priced_eq {ks : List (List Int)} {octs : List Int} {f : Int} {j : Nat} (hk : Kn ks) (hj : j < octs.length) :
    pricedU ks octs f (tabU ks octs f j) (octs.length - 1 - j) = (stepsU ks octs f (octs.length - 1 - j)).map fun r => (full ks octs f r, r.2.1, r.2.2) := by
  unfold pricedU
  apply List.map_congr_left
  intro r hr
  have := steps_end hk (show octs.length - 1 - j < octs.length by omega) r hr
  unfold full
  rw [pr_at (show octs.length - r.2.1 ≤ j by omega)]
theorem pr_succ {ks : List (List Int)} {octs : List Int} {f : Int} {j : Nat} (hk : Kn ks) (hj : j < octs.length) :
    pr ks octs f (j + 1) = lowest ((stepsU ks octs f (octs.length - 1 - j)).map (full ks octs f)) := by
  have e : (tabU ks octs f (j + 1))[j + 1]? = some (lowest ((pricedU ks octs f (tabU ks octs f j) (octs.length - 1 - j)).map (·.1)), firstOf (pricedU ks octs f (tabU ks octs f j) (octs.length - 1 - j)) (lowest ((pricedU ks octs f (tabU ks octs f j) (octs.length - 1 - j)).map (·.1)))) := by
    show (tabU ks octs f j ++ [_])[j + 1]? = _
    rw [List.getElem?_append_right (by rw [tabU_len]; omega), tabU_len]
    simp
  unfold pr priceAt
  rw [e, priced_eq hk hj, List.map_map]
  rfl
/-- every step costs at least that -/
theorem pr_le {ks : List (List Int)} {octs : List Int} {f : Int} {at' : Nat} (hk : Kn ks) (ha : at' < octs.length) : ∀ r ∈ stepsU ks octs f at', pr ks octs f (octs.length - at') ≤ full ks octs f r := by
  intro r hr
  obtain ⟨j, hj⟩ : ∃ j, octs.length - at' = j + 1 := ⟨octs.length - at' - 1, by omega⟩
  rw [hj, pr_succ hk (by omega), show octs.length - 1 - j = at' by omega]
  exact lowest_le _ (List.mem_map.mpr ⟨r, hr, rfl⟩)
theorem pr_some {ks : List (List Int)} {octs : List Int} {f : Int} {at' : Nat} (hk : Kn ks) (ha : at' < octs.length) : ∃ r ∈ stepsU ks octs f at', full ks octs f r = pr ks octs f (octs.length - at') := by
  obtain ⟨j, hj⟩ : ∃ j, octs.length - at' = j + 1 := ⟨octs.length - at' - 1, by omega⟩
  rw [hj, pr_succ hk (by omega), show octs.length - 1 - j = at' by omega]
  have := lowest_mem (xs := (stepsU ks octs f at').map (full ks octs f)) (by unfold stepsU; simp)
  obtain ⟨r, h1, h2⟩ := List.mem_map.mp this
  exact ⟨r, h1, h2⟩
/-- the step that the table tells -/
theorem tab_step {ks : List (List Int)} {octs : List Int} {f : Int} {at' : Nat} (hk : Kn ks) (ha : at' < octs.length) : ∃ r ∈ stepsU ks octs f at', full ks octs f r = pr ks octs f (octs.length - at') ∧
    (tabU ks octs f octs.length)[octs.length - at']? = some (pr ks octs f (octs.length - at'), some (r.2.1, r.2.2)) := by
  obtain ⟨j, hj⟩ : ∃ j, octs.length - at' = j + 1 := ⟨octs.length - at' - 1, by omega⟩
  have e : (tabU ks octs f octs.length)[j + 1]? = some (lowest ((pricedU ks octs f (tabU ks octs f j) (octs.length - 1 - j)).map (·.1)), firstOf (pricedU ks octs f (tabU ks octs f j) (octs.length - 1 - j)) (lowest ((pricedU ks octs f (tabU ks octs f j) (octs.length - 1 - j)).map (·.1)))) := by
    rw [tabU_get (show j + 1 ≤ octs.length by omega)]
    show (tabU ks octs f j ++ [_])[j + 1]? = _
    rw [List.getElem?_append_right (by rw [tabU_len]; omega), tabU_len]
    simp
  rw [priced_eq hk (by omega), List.map_map, show octs.length - 1 - j = at' by omega] at e
  have hp := pr_succ (f := f) hk (show j < octs.length by omega)
  rw [show octs.length - 1 - j = at' by omega] at hp
  have e2 : lowest ((stepsU ks octs f at').map ((fun x : Row => x.1) ∘ fun r : Row => (full ks octs f r, r.2.1, r.2.2))) = pr ks octs f (j + 1) := by
    rw [hp]
    rfl
  rw [e2] at e
  rw [hj]
  obtain ⟨r0, h1, h2⟩ := pr_some (f := f) hk ha
  rw [hj] at h2
  unfold firstOf at e
  rw [List.find?_map] at e
  cases hf : (stepsU ks octs f at').find? ((fun r : Row => decide (r.1 = pr ks octs f (j + 1))) ∘ fun r : Row => (full ks octs f r, r.2.1, r.2.2)) with
  | none =>
    rw [List.find?_eq_none] at hf
    exact absurd (decide_eq_true h2) (hf r0 h1)
  | some r =>
    rw [hf] at e
    have q := List.find?_some hf
    exact ⟨r, List.mem_of_find?_eq_some hf, of_decide_eq_true q, e⟩
theorem pr_nat {ks : List (List Int)} {octs : List Int} {f : Int} (hk : Kn ks) (hf : 0 ≤ f) : ∀ i, i ≤ octs.length → 0 ≤ pr ks octs f i ∧ pr ks octs f i ≤ (i : Int) := by
  intro i
  induction i using Nat.strongRecOn with
  | ind i ih =>
    intro hi
    cases i with
    | zero => exact ⟨Int.le_refl _, Int.le_refl _⟩
    | succ j =>
      have hat : octs.length - (j + 1) < octs.length := by omega
      have e : octs.length - (octs.length - (j + 1)) = j + 1 := by omega
      refine ⟨?_, ?_⟩
      · obtain ⟨r, h1, h2⟩ := pr_some (f := f) hk hat
        rw [e] at h2
        rw [← h2]
        have he := steps_end hk hat r h1
        have := (ih (octs.length - r.2.1) (by omega) (by omega)).1
        unfold full
        have h0 : 0 ≤ r.1 := by
          rcases List.mem_cons.mp h1 with rfl | h1
          · show (0 : Int) ≤ 1
            decide
          · obtain ⟨p, _, rfl⟩ := List.mem_map.mp h1
            exact hf
        omega
      · have h1 := pr_le (f := f) hk hat (1, octs.length - (j + 1) + 1, none) List.mem_cons_self
        rw [e] at h1
        have h2 := (ih j (by omega) (by omega)).2
        unfold full at h1
        rw [show octs.length - (octs.length - (j + 1) + 1) = j by omega] at h1
        have h1 : pr ks octs f (j + 1) ≤ 1 + pr ks octs f j := h1
        omega
/-- a chunk more: never dearer -/
theorem steps_more {ks more : List (List Int)} {octs : List Int} {f : Int} {at' : Nat} : ∀ r ∈ stepsU ks octs f at', r ∈ stepsU (ks ++ more) octs f at' := by
  intro r hr
  rcases List.mem_cons.mp hr with rfl | hr
  · exact List.mem_cons_self
  · refine List.mem_cons_of_mem _ ?_
    obtain ⟨p, hp, rfl⟩ := List.mem_map.mp hr
    refine List.mem_map.mpr ⟨p, ?_, rfl⟩
    obtain ⟨h1, h2⟩ := List.mem_filter.mp hp
    refine List.mem_filter.mpr ⟨?_, h2⟩
    rw [List.zipIdx_append]
    exact List.mem_append.mpr (.inl h1)
theorem pr_more {ks more : List (List Int)} {octs : List Int} {f : Int} (hk : Kn ks) (hk2 : Kn (ks ++ more)) : ∀ i, i ≤ octs.length → pr (ks ++ more) octs f i ≤ pr ks octs f i := by
  intro i
  induction i using Nat.strongRecOn with
  | ind i ih =>
    intro hi
    cases i with
    | zero => exact Int.le_refl _
    | succ j =>
      have hat : octs.length - (j + 1) < octs.length := by omega
      have e : octs.length - (octs.length - (j + 1)) = j + 1 := by omega
      obtain ⟨r, h1, h2⟩ := pr_some (f := f) hk hat
      rw [e] at h2
      have h3 := pr_le (f := f) hk2 hat r (steps_more r h1)
      rw [e] at h3
      have he := steps_end hk hat r h1
      have := ih (octs.length - r.2.1) (by omega) (by omega)
      unfold full at h2 h3
      omega
/-! ### pieces -/
inductive Pc where
  | new (xs : List Int)
  | kn (i : Nat)
def Pc.isNew : Pc → Bool | .new _ => true | .kn _ => false
def ownU (ks : List (List Int)) : Pc → List Int
  | .new xs => xs
  | .kn i => ks.getD i []
def toldU (ks : List (List Int)) (ps : List Pc) : List Int := ps.flatMap (ownU ks)
def priceP (f : Int) : Pc → Int
  | .new xs => (xs.length : Int)
  | .kn _ => f
def costU (f : Int) (ps : List Pc) : Int := (ps.map (priceP f)).sum
def okP (ks : List (List Int)) : Pc → Prop
  | .new xs => xs ≠ [] ∧ (∀ o ∈ xs, 0 ≤ o ∧ o ≤ 255) ∧ xs.length ≤ 5000
  | .kn i => i < ks.length
/-- no two new ones side by side -/
def Adj (ps : List Pc) : Prop := ∀ i p q, ps[i]? = some p → ps[i + 1]? = some q → p.isNew = true → q.isNew = false
structure Good (ks : List (List Int)) (ps : List Pc) : Prop where
  ok : ∀ p ∈ ps, okP ks p
  adj : Adj ps
theorem toldU_append (ks : List (List Int)) (ps qs : List Pc) : toldU ks (ps ++ qs) = toldU ks ps ++ toldU ks qs := List.flatMap_append
theorem sum_app : ∀ (xs ys : List Int), (xs ++ ys).sum = xs.sum + ys.sum
  | [], ys => by simp
  | x :: xs, ys => by
    rw [List.cons_append, List.sum_cons, List.sum_cons, sum_app xs ys]
    omega
theorem costU_append (f : Int) (ps qs : List Pc) : costU f (ps ++ qs) = costU f ps + costU f qs := by
  unfold costU
  rw [List.map_append, sum_app]
theorem Adj.snoc {ps : List Pc} {p : Pc} (h : Adj ps) (hp : p.isNew = true → ∀ q, ps.getLast? = some q → q.isNew = false) : Adj (ps ++ [p]) := by
  intro i a b ha hb hn
  rcases Nat.lt_or_ge (i + 1) ps.length with hl | hl
  · rw [List.getElem?_append_left (by omega)] at ha
    rw [List.getElem?_append_left hl] at hb
    exact h i a b ha hb hn
  · rcases Nat.lt_or_ge i ps.length with hl2 | hl2
    · rw [List.getElem?_append_left hl2] at ha
      have e : i + 1 = ps.length := by omega
      rw [e, List.getElem?_append_right (Nat.le_refl _), Nat.sub_self] at hb
      have hb : p = b := by simpa using hb
      subst hb
      cases hpn : p.isNew with
      | false => rfl
      | true =>
        have hlast : ps.getLast? = some a := by
          rw [List.getLast?_eq_getElem?, show ps.length - 1 = i by omega]
          exact ha
        rw [hp hpn a hlast] at hn
        cases hn
    · have := (List.getElem?_eq_some_iff.mp hb).1
      rw [List.length_append] at this
      simp at this
      omega
/-- the loop of best_pieces -/
structure Best (ks : List (List Int)) (octs : List Int) (f : Int) (at' : Nat) (found : List Pc) (new : List Int) : Prop where
  le : at' ≤ octs.length
  told : toldU ks found ++ new = octs.take at'
  cost : costU f found + (new.length : Int) + pr ks octs f (octs.length - at') = pr ks octs f octs.length
  ok : ∀ p ∈ found, okP ks p
  adj : Adj found
  last : ∀ q, found.getLast? = some q → q.isNew = false
  len : found.length ≤ 2 * at'
  byt : ∀ o ∈ new, 0 ≤ o ∧ o ≤ 255
  nlen : new.length ≤ at'
def flush (new : List Int) : List Pc := if new ≠ [] then [.new new] else []
theorem flush_told {ks : List (List Int)} (new : List Int) : toldU ks (flush new) = new := by
  unfold flush
  split
  · show new ++ [] = new
    rw [List.append_nil]
  · rename_i h
    have : new = [] := by simpa using h
    rw [this]
    rfl
theorem flush_cost {f : Int} (new : List Int) : costU f (flush new) = (new.length : Int) := by
  unfold flush
  split
  · show (new.length : Int) + 0 = _
    omega
  · rename_i h
    have : new = [] := by simpa using h
    rw [this]
    rfl
theorem flush_ok {ks : List (List Int)} {new : List Int} (hb : ∀ o ∈ new, 0 ≤ o ∧ o ≤ 255) (hl : new.length ≤ 5000) : ∀ p ∈ flush new, okP ks p := by
  unfold flush
  split
  · rename_i h
    intro p hp
    rw [List.mem_singleton.mp hp]
    exact ⟨h, hb, hl⟩
  · intro p hp
    cases hp
theorem flush_len (new : List Int) : (flush new).length ≤ 1 := by
  unfold flush
  split <;> simp
theorem Best.start {ks : List (List Int)} {octs : List Int} {f : Int} : Best ks octs f 0 [] [] :=
  ⟨Nat.zero_le _, rfl, by show (0 : Int) + 0 + pr ks octs f octs.length = _; omega, fun p hp => (by cases hp), fun i p q h => (by simp at h), fun q h => (by cases h), Nat.le_refl _, fun o ho => (by cases ho), Nat.le_refl _⟩
theorem Best.flushed {ks : List (List Int)} {octs : List Int} {f : Int} {at' : Nat} {found : List Pc} {new : List Int} (h : Best ks octs f at' found new) (hl : at' ≤ 5000) : Good ks (found ++ flush new) := by
  refine ⟨fun p hp => ?_, ?_⟩
  · rcases List.mem_append.mp hp with hp | hp
    · exact h.ok p hp
    · exact flush_ok h.byt (by have := h.nlen; omega) p hp
  · unfold flush
    split
    · exact h.adj.snoc fun _ q hq => h.last q hq
    · rw [List.append_nil]
      exact h.adj
theorem take_hit {octs : List Int} {at' : Nat} {k : List Int} (h : hit octs at' k = true) : octs.take (at' + k.length) = octs.take at' ++ k := by
  rw [List.take_add, of_decide_eq_true h]
/-- one step on: a new octet -/
theorem Best.new {ks : List (List Int)} {octs : List Int} {f : Int} {at' : Nat} {found : List Pc} {new : List Int} {o : Int} (h : Best ks octs f at' found new) (ho : octs[at']? = some o) (hb : 0 ≤ o ∧ o ≤ 255)
    (hp : (1 : Int) + pr ks octs f (octs.length - (at' + 1)) = pr ks octs f (octs.length - at')) : Best ks octs f (at' + 1) found (new ++ [o]) := by
  have hl := (List.getElem?_eq_some_iff.mp ho).1
  refine ⟨hl, ?_, ?_, h.ok, h.adj, h.last, by have := h.len; omega, fun z hz => ?_, by rw [List.length_append]; have := h.nlen; simp; omega⟩
  · rw [← List.append_assoc, h.told, List.take_add_one, ho]
    rfl
  · rw [List.length_append]
    have := h.cost
    simp
    omega
  · rcases List.mem_append.mp hz with hz | hz
    · exact h.byt z hz
    · rw [List.mem_singleton.mp hz]
      exact hb
/-- one step on: a known chunk -/
theorem Best.kn {ks : List (List Int)} {octs : List Int} {f : Int} {at' i : Nat} {found : List Pc} {new k : List Int} (h : Best ks octs f at' found new) (hn : at' ≤ 5000) (hi : ks[i]? = some k) (hk : k ≠ []) (hh : hit octs at' k = true)
    (hp : f + pr ks octs f (octs.length - (at' + k.length)) = pr ks octs f (octs.length - at')) : Best ks octs f (at' + k.length) (found ++ (flush new ++ [.kn i])) [] := by
  have hG := h.flushed hn
  have hkl := List.length_pos_iff.mpr hk
  refine ⟨hit_end hh hk, ?_, ?_, fun p hp => ?_, ?_, fun q hq => ?_, ?_, fun o ho => (by cases ho), by simp⟩
  · rw [List.append_nil, toldU_append, toldU_append, flush_told, take_hit hh, ← h.told]
    have : toldU ks [.kn i] = k := by
      show ownU ks (.kn i) ++ [] = k
      rw [List.append_nil]
      show ks.getD i [] = k
      rw [List.getD_eq_getElem?_getD, hi]
      rfl
    rw [this, List.append_assoc]
  · rw [costU_append, costU_append, flush_cost]
    have : costU f [.kn i] = f := by
      show f + 0 = f
      omega
    rw [this]
    have := h.cost
    simp
    omega
  · rcases List.mem_append.mp hp with hp | hp
    · exact h.ok p hp
    · rcases List.mem_append.mp hp with hp | hp
      · exact hG.ok p (List.mem_append.mpr (.inr hp))
      · rw [List.mem_singleton.mp hp]
        exact (List.getElem?_eq_some_iff.mp hi).1
  · rw [← List.append_assoc]
    exact hG.adj.snoc fun e => (by cases e)
  · rw [← List.append_assoc, List.getLast?_append] at hq
    simp at hq
    subst hq
    rfl
  · rw [List.length_append, List.length_append]
    have := h.len
    have := flush_len new
    show _ + (_ + 1) ≤ _
    omega
/-! ### all pieces of few -/
abbrev Path := List (Option Nat)
def costR (f : Int) (r : Path) : Int := (r.map fun o => if o = none then 1 else f).sum
abbrev Line := List (Path × Nat)
def longerU (ks : List (List Int)) (octs : List Int) (f : Int) (line : Line) : Line :=
  line.flatMap fun p => if p.2 = octs.length then [] else (stepsU ks octs f p.2).map fun r => (p.1 ++ [r.2.2], r.2.1)
def doneU (octs : List Int) (line : Line) : List Path := (line.filter fun p => decide (p.2 = octs.length)).map (·.1)
theorem costR_snoc (f : Int) (r : Path) (o : Option Nat) : costR f (r ++ [o]) = costR f r + (if o = none then 1 else f) := by
  unfold costR
  rw [List.map_append, sum_app]
  simp
theorem step_cost {ks : List (List Int)} {octs : List Int} {f : Int} {at' : Nat} : ∀ r ∈ stepsU ks octs f at', (if r.2.2 = none then 1 else f) = r.1 := by
  intro r hr
  rcases List.mem_cons.mp hr with rfl | hr
  · rfl
  · obtain ⟨p, _, rfl⟩ := List.mem_map.mp hr
    rfl
structure Gen (ks : List (List Int)) (octs : List Int) (f : Int) (g : Nat) (line : Line) (found : List Path) : Prop where
  row : ∀ p ∈ line, g ≤ p.2 ∧ p.2 ≤ octs.length ∧ pr ks octs f octs.length ≤ costR f p.1 + pr ks octs f (octs.length - p.2)
  low : ∀ r ∈ found, pr ks octs f octs.length ≤ costR f r
  one : (∃ r ∈ found, costR f r = pr ks octs f octs.length) ∨ ∃ p ∈ line, costR f p.1 + pr ks octs f (octs.length - p.2) = pr ks octs f octs.length
  few : found.length + line.length * 4 ^ (8 - g) ≤ 4 ^ 8
theorem Gen.start {ks : List (List Int)} {octs : List Int} {f : Int} : Gen ks octs f 0 [([], 0)] [] := by
  refine ⟨fun p hp => ?_, fun r hr => (by cases hr), .inr ⟨([], 0), List.mem_cons_self, ?_⟩, by decide⟩
  · rw [List.mem_singleton.mp hp]
    refine ⟨Nat.le_refl _, Nat.zero_le _, ?_⟩
    show _ ≤ (0 : Int) + pr ks octs f octs.length
    omega
  · show (0 : Int) + pr ks octs f octs.length = _
    omega
theorem Gen.short {ks : List (List Int)} {octs : List Int} {f : Int} {g : Nat} {line : Line} {found : List Path} (h : Gen ks octs f g line found) (hne : line ≠ []) : g ≤ octs.length := by
  obtain ⟨p, r, rfl⟩ := List.exists_cons_of_ne_nil hne
  have := h.row p List.mem_cons_self
  omega
theorem steps_len {ks : List (List Int)} {octs : List Int} {f : Int} {at' : Nat} : (stepsU ks octs f at').length ≤ 1 + ks.length := by
  unfold stepsU
  rw [List.length_cons, List.length_map]
  have := List.length_filter_le (fun p : List Int × Nat => hit octs at' p.1) ks.zipIdx
  rw [List.length_zipIdx] at this
  omega
theorem longer_len {ks : List (List Int)} {octs : List Int} {f : Int} (h3 : ks.length ≤ 3) : ∀ line : Line, (longerU ks octs f line).length + 4 * (doneU octs line).length ≤ 4 * line.length
  | [] => Nat.le_refl _
  | p :: line => by
    have ih := longer_len (octs := octs) (f := f) h3 line
    have e1 : longerU ks octs f (p :: line) = (if p.2 = octs.length then [] else (stepsU ks octs f p.2).map fun r => (p.1 ++ [r.2.2], r.2.1)) ++ longerU ks octs f line := rfl
    have e2 : doneU octs (p :: line) = (if p.2 = octs.length then [p.1] else []) ++ doneU octs line := by
      unfold doneU
      rw [List.filter_cons]
      by_cases hp : p.2 = octs.length <;> simp [hp]
    rw [e1, e2, List.length_append, List.length_append, List.length_cons]
    by_cases hp : p.2 = octs.length
    · rw [if_pos hp, if_pos hp]
      simp
      omega
    · rw [if_neg hp, if_neg hp, List.length_map]
      have := steps_len (ks := ks) (octs := octs) (f := f) (at' := p.2)
      simp
      omega
theorem Gen.next {ks : List (List Int)} {octs : List Int} {f : Int} {g : Nat} {line : Line} {found : List Path} (hk : Kn ks) (h3 : ks.length ≤ 3) (h8 : octs.length ≤ 8) (h : Gen ks octs f g line found) (hne : line ≠ []) :
    Gen ks octs f (g + 1) (longerU ks octs f line) (found ++ doneU octs line) := by
  have hg := h.short hne
  refine ⟨fun p hp => ?_, fun r hr => ?_, ?_, ?_⟩
  · obtain ⟨q, hq, hp⟩ := List.mem_flatMap.mp hp
    obtain ⟨q1, q2, q3⟩ := h.row q hq
    by_cases hqn : q.2 = octs.length
    · rw [if_pos hqn] at hp
      cases hp
    · rw [if_neg hqn] at hp
      obtain ⟨r, hr, rfl⟩ := List.mem_map.mp hp
      have he := steps_end hk (show q.2 < octs.length by omega) r hr
      refine ⟨by show g + 1 ≤ r.2.1; omega, he.2, ?_⟩
      show _ ≤ costR f (q.1 ++ [r.2.2]) + pr ks octs f (octs.length - r.2.1)
      rw [costR_snoc, step_cost r hr]
      have := pr_le (f := f) hk (show q.2 < octs.length by omega) r hr
      unfold full at this
      omega
  · rcases List.mem_append.mp hr with hr | hr
    · exact h.low r hr
    · obtain ⟨q, hq, rfl⟩ := List.mem_map.mp hr
      obtain ⟨m1, m2⟩ := List.mem_filter.mp hq
      have hqn := of_decide_eq_true m2
      have := (h.row q m1).2.2
      rw [hqn, Nat.sub_self] at this
      have e : pr ks octs f 0 = 0 := rfl
      omega
  · rcases h.one with ⟨r, hr, e⟩ | ⟨q, hq, e⟩
    · exact .inl ⟨r, List.mem_append.mpr (.inl hr), e⟩
    · have hq2 := (h.row q hq).2.1
      by_cases hqn : q.2 = octs.length
      · left
        refine ⟨q.1, List.mem_append.mpr (.inr (List.mem_map.mpr ⟨q, List.mem_filter.mpr ⟨hq, decide_eq_true hqn⟩, rfl⟩)), ?_⟩
        rw [hqn, Nat.sub_self] at e
        have e0 : pr ks octs f 0 = 0 := rfl
        omega
      · right
        obtain ⟨r, hr, h2⟩ := pr_some (f := f) hk (show q.2 < octs.length by omega)
        refine ⟨(q.1 ++ [r.2.2], r.2.1), List.mem_flatMap.mpr ⟨q, hq, ?_⟩, ?_⟩
        · rw [if_neg hqn]
          exact List.mem_map.mpr ⟨r, hr, rfl⟩
        · show costR f (q.1 ++ [r.2.2]) + pr ks octs f (octs.length - r.2.1) = _
          rw [costR_snoc, step_cost r hr]
          unfold full at h2
          omega
  · have hl := longer_len (octs := octs) (f := f) h3 line
    have hf := h.few
    rw [List.length_append]
    have hd : (doneU octs line).length ≤ line.length := by
      unfold doneU
      rw [List.length_map]
      exact List.length_filter_le _ _
    rcases Nat.lt_or_ge g 8 with hg8 | hg8
    · obtain ⟨m, hm⟩ : ∃ m, 8 - g = m + 1 := ⟨7 - g, by omega⟩
      have e : 8 - (g + 1) = m := by omega
      rw [hm, Nat.pow_succ] at hf
      rw [e]
      have hpos : 1 ≤ 4 ^ m := Nat.one_le_pow _ _ (by decide)
      have h1 : ((longerU ks octs f line).length + 4 * (doneU octs line).length) * 4 ^ m ≤ (4 * line.length) * 4 ^ m := Nat.mul_le_mul_right _ hl
      rw [Nat.add_mul] at h1
      have h2 : (doneU octs line).length ≤ 4 * (doneU octs line).length * 4 ^ m := by
        have := Nat.mul_le_mul_left (4 * (doneU octs line).length) hpos
        omega
      have h4 : line.length * (4 ^ m * 4) = 4 * line.length * 4 ^ m := by
        rw [Nat.mul_comm (4 ^ m) 4, ← Nat.mul_assoc, Nat.mul_comm line.length 4]
      omega
    · have hg9 : g = 8 := by omega
      subst hg9
      have hdone : (doneU octs line).length = line.length := by
        unfold doneU
        rw [List.length_map, List.filter_eq_self.mpr]
        intro p hp
        have := h.row p hp
        exact decide_eq_true (by omega)
      have hlong : (longerU ks octs f line).length = 0 := by omega
      rw [hlong]
      simp at hf
      omega
end M47
end Ly
namespace Ly
open PySem L2 Evl
namespace K47
/-- the reading of is_whole: slots 0 value, 1 low, 2 high -/
def t_is_whole (K : PySem.W.Frag) : TS :=
  (tRet (tAndV (tCB (rIsi K) (tCons (tVar 0) (tCons (tC (.ty "int")) tNil))) (tAndV (tNotV (tCB (rIsi K) (tCons (tVar 0) (tCons (tC (.ty "bool")) tNil)))) (tChain (rI0 fun i j => .bl (decide (i ≤ j))) (rI0 fun i j => .bl (decide (i ≤ j))) (tVar 1) (tVar 0) (tVar 2)))))
/-- the reading of is_tuple_of: slots 0 value, 1 low, 2 high -/
def t_is_tuple_of (K : PySem.W.Frag) : TS :=
  (tRet (tAndV (tCB (rIsi K) (tCons (tVar 0) (tCons (tC (.ty "tuple")) tNil))) (tChain (rI0 fun i j => .bl (decide (i ≤ j))) (rI0 fun i j => .bl (decide (i ≤ j))) (tVar 1) (tCB (rLenU K) (tCons (tVar 0) tNil)) (tVar 2))))
/-- the reading of fits_octets: slots 0 value, 1 most, 2 one -/
def t_fits_octets (K : PySem.W.Frag) (R_is_tuple_of : Pr) (R_is_whole : Pr) : TS :=
  (tRet (tAndV (tCall (spX R_is_tuple_of) [] E0 (tCons (tVar 0) (tCons (tC (.int 0)) (tCons (tVar 1) tNil)))) (tCB (rAll K) (tCons (tLc (iTup K (tVar 0)) (gName 2) tYes (tCall (spX R_is_whole) [] E0 (tCons (tVar 2) (tCons (tC (.int 0)) (tCons (tC (.int 255)) tNil)))) [2]) tNil))))
/-- the reading of fits_known: slots 0 value, 1 one -/
def t_fits_known (K : PySem.W.Frag) (R_is_tuple_of : Pr) (R_fits_octets : Pr) : TS :=
  (tSeq (tIfS (tOr (tNot (tB (tCall (spX R_is_tuple_of) [] E0 (tCons (tVar 0) (tCons (tC (.int 0)) (tCons (tC (.int 64)) tNil)))))) (tNot (tB (tCB (rAll K) (tCons (tLc (iTup K (tVar 0)) (gName 1) tYes (tAndV (tCall (spX R_fits_octets) [] E0 (tCons (tVar 1) (tCons (tC (.int 512)) tNil))) (tOp (rNeD K) (tVar 1) (tTup tNil))) [1]) tNil))))) (tRet (tC (.bl false))) tNext)
  (tRet (tOp (rEqD K) (tLenSetT K (tVar 0)) (tCB (rLenU K) (tCons (tVar 0) tNil)))))
/-- the reading of need_known: slots 0 known -/
def t_need_known (K : PySem.W.Frag) (R_fits_known : Pr) : TS :=
  (tIfS (tNot (tB (tCall (spX R_fits_known) [] E0 (tCons (tVar 0) tNil)))) tNever tNext)
/-- the reading of fits_piece: slots 0 known, 1 value -/
def t_fits_piece (K : PySem.W.Frag) (R_is_tuple_of : Pr) (R_is_whole : Pr) (R_fits_octets : Pr) : TS :=
  (tSeq (tIfS (tOr (tNot (tB (tCall (spX R_is_tuple_of) [] E0 (tCons (tVar 1) (tCons (tC (.int 2)) (tCons (tC (.int 2)) tNil)))))) (tNot (tB (tCB (rIsi K) (tCons (tOp (rIx K) (tVar 1) (tC (.int 0))) (tCons (tC (.ty "str")) tNil)))))) (tRet (tC (.bl false))) tNext)
  (tSeq (tIfS (tTest (tOp (rEqD K) (tOp (rIx K) (tVar 1) (tC (.int 0))) (tC (.str (PySem.Str.ofString "known"))))) (tRet (tCall (spX R_is_whole) [] E0 (tCons (tOp (rIx K) (tVar 1) (tC (.int 1))) (tCons (tC (.int 0)) (tCons (tOp (rI0 fun i j => .int (i - j)) (tCB (rLenU K) (tCons (tVar 0) tNil)) (tC (.int 1))) tNil))))) tNext)
  (tRet (tAndV (tOp (rEqD K) (tOp (rIx K) (tVar 1) (tC (.int 0))) (tC (.str (PySem.Str.ofString "new")))) (tAndV (tCall (spX R_fits_octets) [] E0 (tCons (tOp (rIx K) (tVar 1) (tC (.int 1))) (tCons (tC (.int 5000)) tNil))) (tOp (rNeD K) (tOp (rIx K) (tVar 1) (tC (.int 1))) (tTup tNil)))))))
/-- the reading of fits_pieces: slots 0 known, 1 value, 2 one, 3 other, 4 word, 5 own -/
def t_fits_pieces (K : PySem.W.Frag) (R_is_tuple_of : Pr) (R_fits_piece : Pr) : TS :=
  (tSeq (tIfS (tOr (tNot (tB (tCall (spX R_is_tuple_of) [] E0 (tCons (tVar 1) (tCons (tC (.int 0)) (tCons (tC (.int 5000)) tNil)))))) (tNot (tB (tCB (rAll K) (tCons (tLc (iTup K (tVar 1)) (gName 2) tYes (tCall (spX R_fits_piece) [] E0 (tCons (tVar 0) (tCons (tVar 2) tNil))) [2]) tNil))))) (tRet (tC (.bl false))) tNext)
  (tSeq (tIfS (tB (tCB (rAny K) (tCons (tLc (RZ.iZipA K (tCons (tVar 1) (tCons (tSl (rSlU K) (tVar 1) (tPart (tC (.int 1))) tNoPart) tNil))) (gTup K 2 (gCons (gName 2) (gCons (gName 3) gNil))) tYes (tChain (rEqD K) (rEqD K) (tOp (rIx K) (tVar 2) (tC (.int 0))) (tOp (rIx K) (tVar 3) (tC (.int 0))) (tC (.str (PySem.Str.ofString "new")))) [2, 3]) tNil))) (tRet (tC (.bl false))) tNext)
  (tRet (tOp (rI0 fun i j => .bl (decide (i ≤ j))) (tCB (rSum K) (tCons (tLc (iTup K (tVar 1)) (gTup K 2 (gCons (gName 4) (gCons (gName 5) gNil))) tYes (tCB (rLenU K) (tCons (tIf (tTest (tOp (rEqD K) (tVar 4) (tC (.str (PySem.Str.ofString "known"))))) (tOp (rIx K) (tVar 0) (tVar 5)) (tVar 5)) tNil)) [4, 5]) tNil)) (tC (.int 5000))))))
/-- the reading of steps_at: slots 0 known, 1 octets, 2 at, 3 frame, 4 rows, 5 index, 6 chunk -/
def t_steps_at (K : PySem.W.Frag) : TS :=
  (tSeq (tAsg (tLst (tCons (tTup (tCons (tC (.int 1)) (tCons (tOp (rAddU K) (tVar 2) (tC (.int 1))) (tCons (tC .non) tNil)))) tNil)) (gName 4))
  (tSeq (tFor (iEnumT K (tCons (tVar 0) tNil)) (gTup K 2 (gCons (gName 5) (gCons (gName 6) gNil))) (tIfS (tTest (tOp (rEqD K) (tSl (rSlU K) (tVar 1) (tPart (tVar 2)) (tPart (tOp (rAddU K) (tVar 2) (tCB (rLenU K) (tCons (tVar 6) tNil))))) (tVar 6))) (tDrop (tBM K "list" rAppend (tVar 4) (tCons (tTup (tCons (tVar 3) (tCons (tOp (rAddU K) (tVar 2) (tCB (rLenU K) (tCons (tVar 6) tNil))) (tCons (tVar 5) tNil)))) tNil))) tNext))
  (tRet (tVar 4))))
/-- the reading of prices_in: slots 0 known, 1 octets, 2 frame, 3 found, 4 at, 5 rows, 6 least, 7 price, 8 there, 9 index, 10 row -/
def t_prices_in (K : PySem.W.Frag) (R_steps_at : Pr) : TS :=
  (tSeq (tAsg (tLst (tCons (tTup (tCons (tC (.int 0)) (tCons (tC .non) tNil))) tNil)) (gName 3))
  (tSeq (tFor (iRng3 (tCons (tOp (rI0 fun i j => .int (i - j)) (tCB (rLenU K) (tCons (tVar 1) tNil)) (tC (.int 1))) (tCons (tUn (rU fun i => .int (-i)) (tC (.int 1))) (tCons (tUn (rU fun i => .int (-i)) (tC (.int 1))) tNil)))) (gName 4) (tSeq (tAsg (tLc (iList K (tCall (spX R_steps_at) [] E0 (tCons (tVar 0) (tCons (tVar 1) (tCons (tVar 4) (tCons (tVar 2) tNil)))))) (gTup K 3 (gCons (gName 7) (gCons (gName 8) (gCons (gName 9) gNil)))) tYes (tTup (tCons (tOp (rAddU K) (tVar 7) (tOp (rIx K) (tOp (rIx K) (tVar 3) (tOp (rI0 fun i j => .int (i - j)) (tCB (rLenU K) (tCons (tVar 1) tNil)) (tVar 8))) (tC (.int 0)))) (tCons (tVar 8) (tCons (tVar 9) tNil)))) [7, 8, 9]) (gName 5))
  (tSeq (tAsg (tCB (rMin K) (tCons (tLc (iList K (tVar 5)) (gName 10) tYes (tOp (rIx K) (tVar 10) (tC (.int 0))) [10]) tNil)) (gName 6))
  (tDrop (tBM K "list" rAppend (tVar 3) (tCons (tTup (tCons (tVar 6) (tCons (tOp (rIx K) (tLc (iList K (tVar 5)) (gName 10) (tTest (tOp (rEqD K) (tOp (rIx K) (tVar 10) (tC (.int 0))) (tVar 6))) (tSl (rSlU K) (tVar 10) (tPart (tC (.int 1))) tNoPart) [10]) (tC (.int 0))) tNil))) tNil))))))
  (tRet (tRevL K (tVar 3)))))
/-- the reading of need_all: slots 0 known, 1 octets, 2 frame -/
def t_need_all (K : PySem.W.Frag) (R_need_known : Pr) (R_fits_octets : Pr) (R_is_whole : Pr) : TS :=
  (tSeq (tDrop (tCall (spX R_need_known) [] E0 (tCons (tVar 0) tNil)))
  (tSeq (tIfS (tNot (tB (tCall (spX R_fits_octets) [] E0 (tCons (tVar 1) (tCons (tC (.int 5000)) tNil))))) tNever tNext)
  (tIfS (tNot (tB (tCall (spX R_is_whole) [] E0 (tCons (tVar 2) (tCons (tC (.int 0)) (tCons (tC (.int 100)) tNil)))))) tNever tNext)))
/-- the reading of told_by: slots 0 known, 1 pieces, 2 word, 3 own, 4 octet -/
def t_told_by (K : PySem.W.Frag) (R_need_known : Pr) (R_fits_pieces : Pr) : TS :=
  (tSeq (tDrop (tCall (spX R_need_known) [] E0 (tCons (tVar 0) tNil)))
  (tSeq (tIfS (tNot (tB (tCall (spX R_fits_pieces) [] E0 (tCons (tVar 0) (tCons (tVar 1) tNil))))) tNever tNext)
  (tRet (tCB (rTupOf K) (tCons (tLc2 (iTup K (tVar 1)) (gTup K 2 (gCons (gName 2) (gCons (gName 3) gNil))) tYes (iTup K (tIf (tTest (tOp (rEqD K) (tVar 2) (tC (.str (PySem.Str.ofString "known"))))) (tOp (rIx K) (tVar 0) (tVar 3)) (tVar 3))) (gName 4) tYes (tVar 4) [2, 3, 4] [4]) tNil)))))
/-- the reading of price_of: slots 0 known, 1 pieces, 2 frame, 3 word, 4 own -/
def t_price_of (K : PySem.W.Frag) (R_need_known : Pr) (R_fits_pieces : Pr) (R_is_whole : Pr) : TS :=
  (tSeq (tDrop (tCall (spX R_need_known) [] E0 (tCons (tVar 0) tNil)))
  (tSeq (tIfS (tNot (tB (tCall (spX R_fits_pieces) [] E0 (tCons (tVar 0) (tCons (tVar 1) tNil))))) tNever tNext)
  (tSeq (tIfS (tNot (tB (tCall (spX R_is_whole) [] E0 (tCons (tVar 2) (tCons (tC (.int 0)) (tCons (tC (.int 100)) tNil)))))) tNever tNext)
  (tRet (tCB (rSum K) (tCons (tLc (iTup K (tVar 1)) (gTup K 2 (gCons (gName 3) (gCons (gName 4) gNil))) tYes (tIf (tTest (tOp (rEqD K) (tVar 3) (tC (.str (PySem.Str.ofString "known"))))) (tVar 2) (tCB (rLenU K) (tCons (tVar 4) tNil))) [3, 4]) tNil))))))
/-- the reading of least_price: slots 0 known, 1 octets, 2 frame -/
def t_least_price (K : PySem.W.Frag) (R_need_all : Pr) (R_prices_in : Pr) : TS :=
  (tSeq (tDrop (tCall (spX R_need_all) [] E0 (tCons (tVar 0) (tCons (tVar 1) (tCons (tVar 2) tNil)))))
  (tRet (tOp (rIx K) (tOp (rIx K) (tCall (spX R_prices_in) [] E0 (tCons (tVar 0) (tCons (tVar 1) (tCons (tVar 2) tNil)))) (tC (.int 0))) (tC (.int 0)))))
/-- the reading of best_pieces: slots 0 known, 1 octets, 2 frame, 3 table, 4 at, 5 found, 6 new, 7 there, 8 index -/
def t_best_pieces (K : PySem.W.Frag) (R_need_all : Pr) (R_prices_in : Pr) : TS :=
  (tSeq (tDrop (tCall (spX R_need_all) [] E0 (tCons (tVar 0) (tCons (tVar 1) (tCons (tVar 2) tNil)))))
  (tSeq (tAsg (tTup (tCons (tCall (spX R_prices_in) [] E0 (tCons (tVar 0) (tCons (tVar 1) (tCons (tVar 2) tNil)))) (tCons (tC (.int 0)) (tCons (tLst tNil) (tCons (tTup tNil) tNil))))) (gTup K 4 (gCons (gName 3) (gCons (gName 4) (gCons (gName 5) (gCons (gName 6) gNil))))))
  (tSeq (tWhile (tTest (tOp (rI0 fun i j => .bl (decide (i < j))) (tVar 4) (tCB (rLenU K) (tCons (tVar 1) tNil)))) (tSeq (tAsg (tOp (rIx K) (tOp (rIx K) (tVar 3) (tVar 4)) (tC (.int 1))) (gTup K 2 (gCons (gName 7) (gCons (gName 8) gNil))))
  (tSeq (tIfS (tTest (tOp rIsU (tVar 8) (tC .non))) (tAsg (tOp (rAddU K) (tVar 6) (tTup (tCons (tOp (rIx K) (tVar 1) (tVar 4)) tNil))) (gName 6)) (tSeq (tAug 5 (tOp (rAddU K) (tIf (tTest (tOp (rNeD K) (tVar 6) (tTup tNil))) (tLst (tCons (tTup (tCons (tC (.str (PySem.Str.ofString "new"))) (tCons (tVar 6) tNil))) tNil)) (tLst tNil)) (tLst (tCons (tTup (tCons (tC (.str (PySem.Str.ofString "known"))) (tCons (tVar 8) tNil))) tNil))) rExt2)
  (tAsg (tTup tNil) (gName 6))))
  (tAsg (tVar 7) (gName 4)))))
  (tRet (tCB (rTupOf K) (tCons (tOp (rAddU K) (tVar 5) (tIf (tTest (tOp (rNeD K) (tVar 6) (tTup tNil))) (tLst (tCons (tTup (tCons (tC (.str (PySem.Str.ofString "new"))) (tCons (tVar 6) tNil))) tNil)) (tLst tNil))) tNil))))))
/-- the reading of law_cup: slots 0 script, 1 cell -/
def t__law_cup (K : PySem.W.Frag) : TS :=
  (tSeq (tAsg (tCB rAbs (tCons (tOp (rIx K) (tOp (rAddU K) (tCB (rLstOf K) (tCons (tVar 0) tNil)) (tLst (tCons (tC (.int 0)) tNil))) (tC (.int 0))) tNil)) (gName 1))
  (tRet (tLst (tCons (tIf (tTest (tOp (rI0 fun i j => .bl (decide (j ≤ i))) (tVar 1) (tOp (rI CPow fun i j => .int (i ^ j.toNat)) (tC (.int 10)) (tC (.int 18))))) (tOp (rI CDiv fun i j => .int (i / j)) (tVar 1) (tC (.int 165))) (tC (.int 0))) (tCons (tOp (rAddU K) (tOp (rI (fun _ j => 0 < j) fun i j => .int (i % j)) (tCB rIntOf (tCons (tOp (rAddU K) (tOp (rMulU K) (tVar 1) (tC (.int 429))) (tC (.int 4597))) tNil)) (tC (.int 2077503101))) (tC (.int 299))) tNil)))))
/-- the reading of law_roll: slots 0 cup, 1 many, 2 found, 3 deep -/
def t__law_roll (K : PySem.W.Frag) : TS :=
  (tSeq (tIfS (tTest (tOp (rI0 fun i j => .bl (decide (j < i))) (tOp (rIx K) (tVar 0) (tC (.int 0))) (tC (.int 0)))) (tSeq (tAsg (tOp (rI (fun _ j => 0 < j) fun i j => .int (i % j)) (tCB rIntOf (tCons (tOp (rIx K) (tVar 0) (tC (.int 0))) tNil)) (tVar 1)) (gName 2))
  (tSeq (tAsg (tOp (rI CDiv fun i j => .int (i / j)) (tOp (rIx K) (tVar 0) (tC (.int 0))) (tVar 1)) (gSub (tVar 0) (tC (.int 0)) rSetL))
  (tRet (tVar 2)))) tNext)
  (tSeq (tAsg (tOp (rI (fun _ j => 0 < j) fun i j => .int (i % j)) (tCB rIntOf (tCons (tOp (rAddU K) (tOp (rMulU K) (tOp (rIx K) (tVar 0) (tC (.int 1))) (tC (.int 31383))) (tC (.int 8305))) tNil)) (tC (.int 2147483399))) (gSub (tVar 0) (tC (.int 1)) rSetL))
  (tSeq (tAsg (tOp (rI (fun _ j => 0 < j) fun i j => .int (i % j)) (tCB rIntOf (tCons (tOp (rMulU K) (tOp (rIx K) (tVar 0) (tC (.int 1))) (tOp (rAddU K) (tOp (rIx K) (tVar 0) (tC (.int 1))) (tC (.int 483)))) tNil)) (tC (.int 2147483563))) (gName 3))
  (tRet (tOp (rI (fun _ j => 0 < j) fun i j => .int (i % j)) (tCB rIntOf (tCons (tOp (rI CDiv fun i j => .int (i / j)) (tVar 3) (tC (.int 797))) tNil)) (tVar 1))))))
/-- the reading of law_same: slots 0 told, 1 due, 2 at -/
def t__law_same (K : PySem.W.Frag) (R__law_same : Pr) : TS :=
  (tSeq (tIfS (tB (tCB (rIsi K) (tCons (tVar 1) (tCons (tC (.ty "tuple")) tNil)))) (tSeq (tIfS (tOr (tNot (tB (tCB (rIsi K) (tCons (tVar 0) (tCons (tC (.ty "tuple")) tNil))))) (tTest (tOp (rNeD K) (tCB (rLenU K) (tCons (tVar 0) tNil)) (tCB (rLenU K) (tCons (tVar 1) tNil))))) (tRet (tC (.bl false))) tNext)
  (tRet (tCB (rAll K) (tCons (tLc (iRng1 (tCons (tCB (rLenU K) (tCons (tVar 1) tNil)) tNil)) (gName 2) tYes (tCall (spX R__law_same) [] E0 (tCons (tOp (rIx K) (tVar 0) (tVar 2)) (tCons (tOp (rIx K) (tVar 1) (tVar 2)) tNil))) [2]) tNil)))) tNext)
  (tSeq (tIfS (tTest (tOp rIsU (tVar 1) (tC .non))) (tRet (tOp rIsU (tVar 0) (tC .non))) tNext)
  (tSeq (tIfS (tB (tCB (rIsi K) (tCons (tVar 1) (tCons (tC (.ty "bool")) tNil)))) (tRet (tIf (tB (tVar 1)) (tOp rIsU (tVar 0) (tC (.bl true))) (tOp rIsU (tVar 0) (tC (.bl false))))) tNext)
  (tSeq (tIfS (tB (tCB (rIsi K) (tCons (tVar 1) (tCons (tC (.ty "int")) tNil)))) (tRet (tAndV (tCB (rIsi K) (tCons (tVar 0) (tCons (tC (.ty "int")) tNil))) (tAndV (tNotV (tCB (rIsi K) (tCons (tVar 0) (tCons (tC (.ty "bool")) tNil)))) (tOp (rEqD K) (tCB rIntOf (tCons (tVar 0) tNil)) (tVar 1))))) tNext)
  (tRet (tAndV (tCB (rIsi K) (tCons (tVar 0) (tCons (tC (.ty "str")) tNil))) (tOp (rEqD K) (tCB rStrU (tCons (tVar 0) tNil)) (tVar 1))))))))
/-- the reading of law_some: slots 0 cup, 1 things -/
def t__law_some (K : PySem.W.Frag) (R__law_roll : Pr) : TS :=
  (tRet (tOp (rIx K) (tVar 1) (tCall (spX R__law_roll) [] E0 (tCons (tVar 0) (tCons (tCB (rLenU K) (tCons (tVar 1) tNil)) tNil)))))
/-- the reading of law_file: slots 0 cup, 1 most, 2 base, 3 octet -/
def t__law_file (K : PySem.W.Frag) (R__law_roll : Pr) (R__law_some : Pr) : TS :=
  (tSeq (tAsg (tCall (spX R__law_roll) [] E0 (tCons (tVar 0) (tCons (tC (.int 256)) tNil))) (gName 2))
  (tRet (tCB (rTupOf K) (tCons (tLc (iRng1 (tCons (tCall (spX R__law_roll) [] E0 (tCons (tVar 0) (tCons (tOp (rAddU K) (tVar 1) (tC (.int 1))) tNil))) tNil)) (gName 3) tYes (tCall (spX R__law_some) [] E0 (tCons (tVar 0) (tCons (tLst (tCons (tVar 2) (tCons (tVar 2) (tCons (tCall (spX R__law_roll) [] E0 (tCons (tVar 0) (tCons (tC (.int 256)) tNil))) tNil)))) tNil))) [3]) tNil))))
/-- the reading of law_octets: slots 0 cup, 1 most, 2 found, 3 turn, 4 at -/
def t__law_octets (K : PySem.W.Frag) (R__law_roll : Pr) (R__law_file : Pr) (R__law_some : Pr) : TS :=
  (tSeq (tAsg (tTup tNil) (gName 2))
  (tSeq (tFor (iRng1 (tCons (tCall (spX R__law_roll) [] E0 (tCons (tVar 0) (tCons (tC (.int 4)) tNil))) tNil)) (gName 3) (tAsg (tOp (rAddU K) (tVar 2) (tCall (spX R__law_some) [] E0 (tCons (tVar 0) (tCons (tLst (tCons (tCall (spX R__law_file) [] E0 (tCons (tVar 0) (tCons (tVar 1) tNil))) (tCons (tOp (rMulU K) (tCall (spX R__law_file) [] E0 (tCons (tVar 0) (tCons (tC (.int 6)) tNil))) (tC (.int 3))) (tCons (tSl (rSlU K) (tVar 2) (tPart (tUn (rU fun i => .int (-i)) (tC (.int 9)))) tNoPart) (tCons (tCB (rTupOf K) (tCons (tLc (iRng1 (tCons (tOp (rI CDiv fun i j => .int (i / j)) (tVar 1) (tC (.int 2))) tNil)) (gName 4) tYes (tCall (spX R__law_roll) [] E0 (tCons (tVar 0) (tCons (tC (.int 256)) tNil))) [4]) tNil)) tNil))))) tNil)))) (gName 2)))
  (tRet (tSl (rSlU K) (tVar 2) tNoPart (tPart (tOp (rMulU K) (tC (.int 4)) (tVar 1)))))))
/-- the reading of law_known: slots 0 cup, 1 octets, 2 found, 3 turn, 4 at, 5 one -/
def t__law_known (K : PySem.W.Frag) (R__law_roll : Pr) (R__law_file : Pr) (R__law_some : Pr) : TS :=
  (tSeq (tAsg tDNewT (gName 2))
  (tSeq (tFor (iRng1 (tCons (tCall (spX R__law_roll) [] E0 (tCons (tVar 0) (tCons (tC (.int 4)) tNil))) tNil)) (gName 3) (tSeq (tAsg (tCall (spX R__law_roll) [] E0 (tCons (tVar 0) (tCons (tOp (rAddU K) (tCB (rLenU K) (tCons (tVar 1) tNil)) (tC (.int 1))) tNil))) (gName 4))
  (tSeq (tAsg (tCall (spX R__law_some) [] E0 (tCons (tVar 0) (tCons (tLst (tCons (tSl (rSlU K) (tVar 1) (tPart (tVar 4)) (tPart (tOp (rAddU K) (tOp (rAddU K) (tVar 4) (tC (.int 1))) (tCall (spX R__law_roll) [] E0 (tCons (tVar 0) (tCons (tC (.int 4)) tNil)))))) (tCons (tCall (spX R__law_file) [] E0 (tCons (tVar 0) (tCons (tC (.int 4)) tNil))) tNil))) tNil))) (gName 5))
  (tDrop (tBM K "dict" rUpdT (tVar 2) (tCons (tIf (tTest (tOp (rNeD K) (tVar 5) (tTup tNil))) (tDispT (tVar 5) (tC (.int 1))) tDNewT) tNil))))))
  (tRet (tCB (rTupOf K) (tCons (tCB rListDT (tCons (tVar 2) tNil)) tNil)))))
/-- the reading of law_steps: slots 0 known, 1 octets, 2 at, 3 frame, 4 chunk -/
def t__law_steps (K : PySem.W.Frag) : TS :=
  (tRet (tOp (rAddU K) (tLst (tCons (tTup (tCons (tC (.int 1)) (tCons (tOp (rAddU K) (tVar 2) (tC (.int 1))) tNil))) tNil)) (tLc (iTup K (tVar 0)) (gName 4) (tTest (tOp (rEqD K) (tSl (rSlU K) (tVar 1) (tPart (tVar 2)) (tPart (tOp (rAddU K) (tVar 2) (tCB (rLenU K) (tCons (tVar 4) tNil))))) (tVar 4))) (tTup (tCons (tVar 3) (tCons (tOp (rAddU K) (tVar 2) (tCB (rLenU K) (tCons (tVar 4) tNil))) tNil))) [4])))
/-- the reading of law_least: slots 0 known, 1 octets, 2 frame, 3 found, 4 back, 5 at, 6 price, 7 there -/
def t__law_least (K : PySem.W.Frag) (R__law_steps : Pr) : TS :=
  (tSeq (tAsg (tDisp [((tCB (rLenU K) (tCons (tVar 1) tNil)), (tC (.int 0)))]) (gName 3))
  (tSeq (tFor (iRng1 (tCons (tCB (rLenU K) (tCons (tVar 1) tNil)) tNil)) (gName 4) (tSeq (tAsg (tOp (rI0 fun i j => .int (i - j)) (tOp (rI0 fun i j => .int (i - j)) (tCB (rLenU K) (tCons (tVar 1) tNil)) (tC (.int 1))) (tVar 4)) (gName 5))
  (sDPut (tVar 3) (tVar 5) (tCB (rMin K) (tCons (tLc (iList K (tCall (spX R__law_steps) [] E0 (tCons (tVar 0) (tCons (tVar 1) (tCons (tVar 5) (tCons (tVar 2) tNil)))))) (gTup K 2 (gCons (gName 6) (gCons (gName 7) gNil))) tYes (tOp (rAddU K) (tVar 6) (tDGet (tVar 3) (tVar 7))) [6, 7]) tNil)))))
  (tRet (tVar 3))))
/-- the reading of law_told: slots 0 known, 1 pieces, 2 found, 3 word, 4 own -/
def t__law_told (K : PySem.W.Frag) : TS :=
  (tSeq (tAsg (tTup tNil) (gName 2))
  (tSeq (tFor (iTup K (tVar 1)) (gTup K 2 (gCons (gName 3) (gCons (gName 4) gNil))) (tAsg (tOp (rAddU K) (tVar 2) (tIf (tTest (tOp (rEqD K) (tVar 3) (tC (.str (PySem.Str.ofString "known"))))) (tOp (rIx K) (tVar 0) (tVar 4)) (tVar 4))) (gName 2)))
  (tRet (tVar 2))))
/-- the reading of law_every: slots 0 known, 1 octets, 2 line, 3 found, 4 longer, 5 row, 6 at, 7 index -/
def t__law_every (K : PySem.W.Frag) : TS :=
  (tSeq (tPar 2 3 (tCons (tLst (tCons (tTup (tCons (tTup tNil) (tCons (tC (.int 0)) tNil))) tNil)) (tCons (tLst tNil) tNil)))
  (tSeq (tWhile (tTest (tOp (rNeD K) (tVar 2) (tLst tNil))) (tSeq (tAsg (tLst tNil) (gName 4))
  (tSeq (tFor (iList K (tVar 2)) (gTup K 2 (gCons (gName 5) (gCons (gName 6) gNil))) (tIfS (tTest (tOp (rEqD K) (tVar 6) (tCB (rLenU K) (tCons (tVar 1) tNil)))) (tDrop (tBM K "list" rAppend (tVar 3) (tCons (tVar 5) tNil))) (tSeq (tAsg (tOp (rAddU K) (tVar 4) (tLst (tCons (tTup (tCons (tOp (rAddU K) (tVar 5) (tTup (tCons (tC .non) tNil))) (tCons (tOp (rAddU K) (tVar 6) (tC (.int 1))) tNil))) tNil))) (gName 4))
  (tAsg (tOp (rAddU K) (tVar 4) (tLc (iRng1 (tCons (tCB (rLenU K) (tCons (tVar 0) tNil)) tNil)) (gName 7) (tTest (tOp (rEqD K) (tSl (rSlU K) (tVar 1) (tPart (tVar 6)) (tPart (tOp (rAddU K) (tVar 6) (tCB (rLenU K) (tCons (tOp (rIx K) (tVar 0) (tVar 7)) tNil))))) (tOp (rIx K) (tVar 0) (tVar 7)))) (tTup (tCons (tOp (rAddU K) (tVar 5) (tTup (tCons (tVar 7) tNil))) (tCons (tOp (rAddU K) (tVar 6) (tCB (rLenU K) (tCons (tOp (rIx K) (tVar 0) (tVar 7)) tNil))) tNil))) [7])) (gName 4)))))
  (tAsg (tVar 4) (gName 2)))))
  (tRet (tVar 3))))
/-- the reading of law_right: slots 0 cup, 1 most, 2 octets, 3 frame, 4 known, 5 least, 6 best, 7 more, 8 few, 9 every, 10 word, 11 own, 12 at, 13 row -/
def t__law_right (K : PySem.W.Frag) (R__law_roll : Pr) (R__law_some : Pr) (R__law_octets : Pr) (R__law_known : Pr) (R__law_least : Pr) (R_best_pieces : Pr) (R_price_of : Pr) (R_told_by : Pr) (R_least_price : Pr) (R__law_same : Pr) (R__law_told : Pr) (R__law_every : Pr) : TS :=
  (tSeq (tAsg (tTup (tCons (tCall (spX R__law_octets) [] E0 (tCons (tVar 0) (tCons (tVar 1) tNil))) (tCons (tCall (spX R__law_some) [] E0 (tCons (tVar 0) (tCons (tLst (tCons (tC (.int 0)) (tCons (tC (.int 1)) (tCons (tC (.int 2)) (tCons (tCall (spX R__law_roll) [] E0 (tCons (tVar 0) (tCons (tC (.int 6)) tNil))) tNil))))) tNil))) tNil))) (gTup K 2 (gCons (gName 2) (gCons (gName 3) gNil))))
  (tSeq (tAsg (tCall (spX R__law_known) [] E0 (tCons (tVar 0) (tCons (tVar 2) tNil))) (gName 4))
  (tSeq (tAsg (tDGet (tCall (spX R__law_least) [] E0 (tCons (tVar 4) (tCons (tVar 2) (tCons (tVar 3) tNil)))) (tC (.int 0))) (gName 5))
  (tSeq (tAsg (tCall (spX R_best_pieces) [] E0 (tCons (tVar 4) (tCons (tVar 2) (tCons (tVar 3) tNil)))) (gName 6))
  (tSeq (tIfS (tNot (tB (tCall (spX R__law_same) [] E0 (tCons (tTup (tCons (tCall (spX R_least_price) [] E0 (tCons (tVar 4) (tCons (tVar 2) (tCons (tVar 3) tNil)))) (tCons (tCall (spX R_told_by) [] E0 (tCons (tVar 4) (tCons (tVar 6) tNil))) (tCons (tCall (spX R_price_of) [] E0 (tCons (tVar 4) (tCons (tVar 6) (tCons (tVar 3) tNil)))) tNil)))) (tCons (tTup (tCons (tVar 5) (tCons (tVar 2) (tCons (tVar 5) tNil)))) tNil))))) (tRet (tC (.bl false))) tNext)
  (tSeq (tIfS (tOr (tTest (tOp (rNeD K) (tCall (spX R__law_told) [] E0 (tCons (tVar 4) (tCons (tVar 6) tNil))) (tVar 2))) (tTest (tOp (rNeD K) (tCB (rSum K) (tCons (tLc (iTup K (tVar 6)) (gTup K 2 (gCons (gName 10) (gCons (gName 11) gNil))) tYes (tIf (tTest (tOp (rEqD K) (tVar 10) (tC (.str (PySem.Str.ofString "known"))))) (tVar 3) (tCB (rLenU K) (tCons (tVar 11) tNil))) [10, 11]) tNil)) (tVar 5)))) (tRet (tC (.bl false))) tNext)
  (tSeq (tIfS (tOr (tTest (tOp (rNeD K) (tLc (iRng2 (tCons (tC (.int 1)) (tCons (tCB (rLenU K) (tCons (tVar 6) tNil)) tNil))) (gName 12) (tAnd (tTest (tOp (rEqD K) (tOp (rIx K) (tOp (rIx K) (tVar 6) (tOp (rI0 fun i j => .int (i - j)) (tVar 12) (tC (.int 1)))) (tC (.int 0))) (tC (.str (PySem.Str.ofString "new"))))) (tTest (tOp (rEqD K) (tOp (rIx K) (tOp (rIx K) (tVar 6) (tVar 12)) (tC (.int 0))) (tC (.str (PySem.Str.ofString "new")))))) (tVar 12) [12]) (tLst tNil))) (tTest (tOp (rI0 fun i j => .bl (decide (j < i))) (tVar 5) (tCB (rLenU K) (tCons (tVar 2) tNil))))) (tRet (tC (.bl false))) tNext)
  (tSeq (tAsg (tOp (rAddU K) (tVar 4) (tIf (tAnd (tTest (tOp (rNeD K) (tVar 2) (tTup tNil))) (tTest (tOp (rNotInU K) (tSl (rSlU K) (tVar 2) tNoPart (tPart (tC (.int 7)))) (tVar 4)))) (tTup (tCons (tSl (rSlU K) (tVar 2) tNoPart (tPart (tC (.int 7)))) tNil)) (tTup tNil))) (gName 7))
  (tSeq (tIfS (tTest (tOp (rI0 fun i j => .bl (decide (j < i))) (tCall (spX R_least_price) [] E0 (tCons (tVar 7) (tCons (tVar 2) (tCons (tVar 3) tNil)))) (tVar 5))) (tRet (tC (.bl false))) tNext)
  (tSeq (tAsg (tSl (rSlU K) (tVar 2) tNoPart (tPart (tC (.int 8)))) (gName 8))
  (tSeq (tAsg (tLc (iList K (tCall (spX R__law_every) [] E0 (tCons (tVar 4) (tCons (tVar 8) tNil)))) (gName 13) tYes (tCB (rSum K) (tCons (tLc (iTup K (tVar 13)) (gName 11) tYes (tIf (tTest (tOp rIsU (tVar 11) (tC .non))) (tC (.int 1)) (tVar 3)) [11]) tNil)) [13]) (gName 9))
  (tRet (tCall (spX R__law_same) [] E0 (tCons (tCall (spX R_least_price) [] E0 (tCons (tVar 4) (tCons (tVar 8) (tCons (tVar 3) tNil)))) (tCons (tCB (rMin K) (tCons (tVar 9) tNil)) tNil)))))))))))))))
/-- the reading of law: slots 0 script, 1 cup, 2 most, 3 known, 4 pieces, 5 frame, 6 turn, 7 is_new, 8 due, 9 word, 10 own -/
def t_law (K : PySem.W.Frag) (S__law_cup : Sp) (R__law_right : Pr) (R_least_price : Pr) (R_price_of : Pr) (R__law_known : Pr) (R__law_roll : Pr) (R__law_told : Pr) (R_told_by : Pr) (R__law_same : Pr) : TS :=
  (tSeq (tAsg (tCall S__law_cup [] E0 (tCons (tVar 0) tNil)) (gName 1))
  (tSeq (tFor (iTup K (tTup (tCons (tC (.int 2)) (tCons (tC (.int 6)) (tCons (tC (.int 15)) (tCons (tC (.int 20)) tNil)))))) (gName 2) (tIfS (tNot (tB (tCall (spX R__law_right) [] E0 (tCons (tVar 1) (tCons (tVar 2) tNil))))) (tRet (tC (.bl false))) tNext))
  (tSeq (tIfS (tOr (tTest (tOp (rNeD K) (tCall (spX R_least_price) [] E0 (tCons (tTup (tCons (tTup (tCons (tC (.int 1)) (tCons (tC (.int 2)) (tCons (tC (.int 3)) tNil)))) (tCons (tTup (tCons (tC (.int 3)) (tCons (tC (.int 4)) tNil))) tNil))) (tCons (tTup (tCons (tC (.int 3)) (tCons (tC (.int 4)) tNil))) (tCons (tC (.int 1)) tNil)))) (tC (.int 1)))) (tTest (tOp (rNeD K) (tCall (spX R_price_of) [] E0 (tCons (tTup tNil) (tCons (tTup (tCons (tTup (tCons (tC (.str (PySem.Str.ofString "new"))) (tCons (tTup (tCons (tC (.int 9)) (tCons (tC (.int 9)) tNil))) tNil))) tNil)) (tCons (tC (.int 2)) tNil)))) (tC (.int 2))))) (tRet (tC (.bl false))) tNext)
  (tSeq (tAsg (tOp (rAddU K) (tCall (spX R__law_known) [] E0 (tCons (tVar 1) (tCons (tTup (tCons (tC (.int 1)) (tCons (tC (.int 2)) (tCons (tC (.int 3)) (tCons (tC (.int 4)) tNil))))) tNil))) (tTup (tCons (tTup (tCons (tC (.int 250)) (tCons (tC (.int 251)) (tCons (tC (.int 252)) (tCons (tC (.int 253)) (tCons (tC (.int 254)) tNil)))))) tNil))) (gName 3))
  (tSeq (tAsg (tTup (tCons (tTup tNil) (tCons (tCall (spX R__law_roll) [] E0 (tCons (tVar 1) (tCons (tC (.int 101)) tNil))) tNil))) (gTup K 2 (gCons (gName 4) (gCons (gName 5) gNil))))
  (tSeq (tFor (iRng1 (tCons (tCall (spX R__law_roll) [] E0 (tCons (tVar 1) (tCons (tC (.int 6)) tNil))) tNil)) (gName 6) (tSeq (tAsg (tAndV (tOp (rEqD K) (tCall (spX R__law_roll) [] E0 (tCons (tVar 1) (tCons (tC (.int 2)) tNil))) (tC (.int 0))) (tOrV (tOp (rEqD K) (tVar 4) (tTup tNil)) (tOp (rEqD K) (tOp (rIx K) (tOp (rIx K) (tVar 4) (tUn (rU fun i => .int (-i)) (tC (.int 1)))) (tC (.int 0))) (tC (.str (PySem.Str.ofString "known")))))) (gName 7))
  (tAsg (tOp (rAddU K) (tVar 4) (tTup (tCons (tIf (tB (tVar 7)) (tTup (tCons (tC (.str (PySem.Str.ofString "new"))) (tCons (tOp (rMulU K) (tTup (tCons (tCall (spX R__law_roll) [] E0 (tCons (tVar 1) (tCons (tC (.int 256)) tNil))) tNil)) (tOp (rAddU K) (tC (.int 1)) (tCall (spX R__law_roll) [] E0 (tCons (tVar 1) (tCons (tC (.int 3)) tNil))))) tNil))) (tTup (tCons (tC (.str (PySem.Str.ofString "known"))) (tCons (tCall (spX R__law_roll) [] E0 (tCons (tVar 1) (tCons (tCB (rLenU K) (tCons (tVar 3) tNil)) tNil))) tNil)))) tNil))) (gName 4))))
  (tSeq (tAsg (tCB (rSum K) (tCons (tLc (iTup K (tVar 4)) (gTup K 2 (gCons (gName 9) (gCons (gName 10) gNil))) tYes (tIf (tTest (tOp (rEqD K) (tVar 9) (tC (.str (PySem.Str.ofString "known"))))) (tVar 5) (tCB (rLenU K) (tCons (tVar 10) tNil))) [9, 10]) tNil)) (gName 8))
  (tRet (tCall (spX R__law_same) [] E0 (tCons (tTup (tCons (tCall (spX R_told_by) [] E0 (tCons (tVar 3) (tCons (tVar 4) tNil))) (tCons (tCall (spX R_price_of) [] E0 (tCons (tVar 3) (tCons (tVar 4) (tCons (tVar 5) tNil)))) tNil))) (tCons (tTup (tCons (tCall (spX R__law_told) [] E0 (tCons (tVar 3) (tCons (tVar 4) tNil))) (tCons (tVar 8) tNil))) tNil)))))))))))
end K47
end Ly
namespace Ly
open PySem L2 Evl
local macro_rules | `(tactic| walk_at "rd") => `(tactic| first
  | assumption
  | exact ad_int | exact rd_sub | exact rd_lt | exact rd_le | exact rd_gt | exact rd_ge
  | exact is_non | exact is_notnon | exact is_bl | exact is_notbl
  | exact int_int | exact len_tup | exact len_lst | exact tup_lst | exact tup_tup | exact lst_tup | exact lst_lst | exact str_str | exact abs_int | exact rc_sum
  | (apply rd_mod; first | assumption | omega | decide)
  | (apply mu_int; first | (left; constructor <;> omega) | (right; constructor <;> omega))
  | (apply rd_fdiv; first | (constructor <;> omega))
  | exact rd_eq rfl rfl | exact rd_ne rfl rfl
  | exact ix_tupD rfl | exact ix_lstD rfl
  | exact rs_tup | exact rs_lst)
local macro_rules | `(tactic| walk_at "eo") => `(tactic| first
  | exact eo_no | (apply eo_some; walk_at "ev"))
local macro_rules | `(tactic| walk_at "ea") => `(tactic| first
  | exact ea_nil
  | (apply ea_cons; (focus walk_at "ev"); (focus walk_at "ea")))
local macro_rules | `(tactic| walk_at "ev") => `(tactic| first
  | assumption
  | exact ev_var rfl
  | exact ev_int | exact ev_bl | exact ev_str | exact ev_non
  | (apply ev_op; (focus walk_at "ev"); (focus walk_at "ev"); (focus walk_at "rd"))
  | (apply ev_sl; (focus walk_at "ev"); (focus walk_at "eo"); (focus walk_at "eo"); (focus walk_at "rd"))
  | (apply ev_isi; (focus walk_at "ev"); (focus (first | rfl | decide +kernel)))
  | (apply ev_cb; (focus walk_at "ea"); (focus walk_at "rd"))
  | (apply ev_tup; (focus walk_at "ea"); (focus (show _ ≤ _; simp; try omega)))
  | (apply ev_lst; (focus walk_at "ea"); (focus (show _ ≤ _; simp; try omega))))
namespace K47
open M46 M47
section
variable {K : PySem.W.Frag} {O : Own} {P : Out → Prop}
/-! ### is_whole, is_tuple_of -/
def isIntD : PyData → Bool | .int _ => true | .bool _ => true | _ => false
def isBoolD : PyData → Bool | .bool _ => true | _ => false
def isTupD : PyData → Bool | .tuple _ => true | _ => false
def isStrD : PyData → Bool | .str _ => true | _ => false
theorem k_int (v : PyData) : kitB (tyName v) "int" = some (isIntD v) := by cases v <;> (simp only [tyName, isIntD, isBoolD, isTupD, isStrD]; decide +kernel)
theorem k_bool (v : PyData) : kitB (tyName v) "bool" = some (isBoolD v) := by cases v <;> (simp only [tyName, isIntD, isBoolD, isTupD, isStrD]; decide +kernel)
theorem k_tup (v : PyData) : kitB (tyName v) "tuple" = some (isTupD v) := by cases v <;> (simp only [tyName, isIntD, isBoolD, isTupD, isStrD]; decide +kernel)
theorem k_str (v : PyData) : kitB (tyName v) "str" = some (isStrD v) := by cases v <;> (simp only [tyName, isIntD, isBoolD, isTupD, isStrD]; decide +kernel)
def isWhole : PyData → Int → Int → Bool
  | .int i, lo, hi => decide (lo ≤ i) && decide (i ≤ hi)
  | _, _, _ => false
def isTupOf : PyData → Int → Int → Bool
  | .tuple xs, lo, hi => decide (lo ≤ (xs.length : Int)) && decide ((xs.length : Int) ≤ hi)
  | _, _, _ => false
theorem b_is_whole {v : PyData} {lo hi : Int} (k : P (.rt (.d (.bool (isWhole v lo hi))) O)) : SX (t_is_whole K) [.d v, .d (.int lo), .d (.int hi)] O P := by
  have e : isWhole v lo hi = (isIntD v && (!isBoolD v && isWhole v lo hi)) := by cases v <;> simp [isWhole, isIntD, isBoolD]
  rw [e] at k
  refine sx_retD (ev_and (ev_isi (ev_var rfl) (k_int v)) fun h1 => ev_and (ev_not (ev_isi (ev_var rfl) (k_bool v))) fun h2 => ?_) k
  cases v with
  | int i => exact ev_chain (ev_var rfl) (ev_var rfl) rd_le fun _ => ⟨_, ev_var rfl, rd_le⟩
  | bool b => cases h2
  | _ => cases h1
theorem b_is_tuple_of {v : PyData} {lo hi : Int} (k : P (.rt (.d (.bool (isTupOf v lo hi))) O)) : SX (t_is_tuple_of K) [.d v, .d (.int lo), .d (.int hi)] O P := by
  have e : isTupOf v lo hi = (isTupD v && isTupOf v lo hi) := by cases v <;> simp [isTupOf, isTupD]
  rw [e] at k
  refine sx_retD (ev_and (ev_isi (ev_var rfl) (k_tup v)) fun h1 => ?_) k
  cases v with
  | tuple xs => exact ev_chain (ev_var rfl) (ev_cb (ea_cons (ev_var rfl) ea_nil) len_tup) rd_le fun _ => ⟨_, ev_var rfl, rd_le⟩
  | _ => cases h1
abbrev R_is_whole : Pr := prD fun ds d => ∃ v lo hi, ds = [v, .int lo, .int hi] ∧ d = .bool (isWhole v lo hi)
abbrev R_is_tuple_of : Pr := prD fun ds d => ∃ v lo hi, ds = [v, .int lo, .int hi] ∧ d = .bool (isTupOf v lo hi)
def fitsOct (v : PyData) (most : Int) : Bool := isTupOf v 0 most && match v with
  | .tuple xs => xs.all fun o => isWhole o 0 255
  | _ => false
abbrev R_fits_octets : Pr := prD fun ds d => ∃ v most, ds = [v, .int most] ∧ most ≤ 100000 ∧ d = .bool (fitsOct v most)
theorem b_fits_octets {v : PyData} {most : Int} (hm : most ≤ 100000) (k : P (.rt (.d (.bool (fitsOct v most))) O)) : SX (t_fits_octets K R_is_tuple_of R_is_whole) [.d v, .d (.int most), .un] O P := by
  unfold fitsOct at k
  refine sx_retD (ev_and (ev_callD (ea_cons (ev_var rfl) (ea_cons ev_int (ea_cons (ev_var rfl) ea_nil))) ⟨_, _, _, rfl, rfl⟩) fun h1 => ?_) k
  cases v with
  | tuple xs =>
    have hl : xs.length ≤ 100000 := by
      simp [isTupOf] at h1
      omega
    have h := ev_lcM (g := gName 2) (vs := [2]) (O := O) (ei_tup (K := K) (ev_var (i := 0) (ρ := [.d (.tuple xs), .d (.int most), .un]) rfl)) hl (fun o => .bool (isWhole o 0 255)) (te := tCall (spX R_is_whole) [] E0 (tCons (tVar 2) (tCons (tC (.int 0)) (tCons (tC (.int 255)) tNil))))
      fun i d hd => ⟨_, _, eg_name, fun j hj => hj, ev_callD (ea_cons (ev_var rfl) (ea_cons ev_int (ea_cons ev_int ea_nil))) ⟨_, _, _, rfl, rfl⟩⟩
    have e : (xs.map fun o => PyData.bool (isWhole o 0 255)) = (xs.map fun o => isWhole o 0 255).map .bool := by rw [List.map_map]; rfl
    rw [e] at h
    refine (ev_cb (ea_cons h ea_nil) rc_all).is ?_
    rw [List.all_map]
    rfl
  | _ => cases h1
end

section
variable {K : PySem.W.Frag} {O : Own} {P : Out → Prop}
/-- a right rule -/
abbrev octD (ns : List Int) : PyData := .tuple (ns.map .int)
structure Oct (ns : List Int) : Prop where
  len : ns.length ≤ 5000
  byt : ∀ o ∈ ns, 0 ≤ o ∧ o ≤ 255
theorem Oct.fits {ns : List Int} (r : Oct ns) : fitsOct (octD ns) 5000 = true := by
  obtain ⟨h1, h2⟩ := r
  simp [fitsOct, isTupOf, isWhole]
  exact ⟨by omega, fun o ho => h2 o ho⟩
theorem ints_get {ns : List Int} {i : Nat} {d : PyData} (h : (ns.map PyData.int)[i]? = some d) : ∃ o, d = .int o ∧ ns[i]? = some o := by
  rw [List.getElem?_map] at h
  cases e : ns[i]? with
  | none => rw [e] at h; cases h
  | some o =>
    rw [e] at h
    exact ⟨o, (Option.some.inj h).symm, rfl⟩
end

section
variable {K : PySem.W.Frag} {O : Own} {P : Out → Prop}
abbrev ownI (a : Addr) (fs : List Int) : Addr × OO := (a, .lst ((fs.map PyData.int).map .d))
theorem own_snoc {a : Addr} {fs : List Int} {c : Int} : (a, OO.lst ((fs.map PyData.int).map E.d ++ [E.d (.int c)])) = ownI a (fs ++ [c]) := by
  unfold ownI
  rw [List.map_append, List.map_append]
  rfl
theorem ints_len (a b : List Int) (h : a.length + b.length ≤ 100000) : (a.map PyData.int).length + (b.map PyData.int).length ≤ 100000 := by
  rw [List.length_map, List.length_map]
  exact h
end

section
variable {K : PySem.W.Frag} {O : Own} {P : Out → Prop}
theorem sIx_in {n d : Nat} {v : Int} (h0 : 0 ≤ v) (h1 : v ≤ (n : Int)) : HT.sIx n d (some v) = v.toNat := by
  show (if v < 0 then (v + (n : Int)).toNat else min v.toNat n) = v.toNat
  rw [if_neg (by omega)]
  omega
/-! ### the cup -/
structure Cup (x y : Int) : Prop where
  x0 : 0 ≤ x
  y0 : 0 ≤ y
  y1 : y < 2147483648
abbrev cup (c : Addr) (x y : Int) : Addr × OO := (c, .lst [.d (.int x), .d (.int y)])
abbrev R__law_roll : Pr := fun es O Z => ∃ c x y n, es = [.r c, .d (.int n)] ∧ O = [cup c x y] ∧ Cup x y ∧ 0 < n ∧ n < 1073741824 ∧ ∀ r x' y', 0 ≤ r → r < n → Cup x' y' → Z (.d (.int r)) [cup c x' y']
theorem b_roll {c : Addr} {x y n : Int} (h : Cup x y) (h0 : 0 < n) (h1 : n < 1073741824) (k : ∀ r x' y', 0 ≤ r → r < n → Cup x' y' → P (.rt (.d (.int r)) [cup c x' y'])) :
    SX (t__law_roll K) [.r c, .d (.int n), .un, .un] [cup c x y] P := by
  obtain ⟨hx, hy, hy1⟩ := h
  have c0 : ∀ (x y : Int) (ρ : List E), ρ[0]? = some (.r c) → EvD (tOp (rIx K) (tVar 0) (tC (.int 0))) ρ [cup c x y] (.int x) := fun x y ρ h => ev_ixO (j := 0) (k := 0) (ev_ref h) ev_int rfl rfl
  have c1 : ∀ (x y : Int) (ρ : List E), ρ[0]? = some (.r c) → EvD (tOp (rIx K) (tVar 0) (tC (.int 1))) ρ [cup c x y] (.int y) := fun x y ρ h => ev_ixO (j := 1) (k := 0) (ev_ref h) ev_int rfl rfl
  refine sx_seq (sx_if (et_test (ev_op (c0 x y _ rfl) ev_int rd_gt)) (fun hc => ?_) fun hc => sx_next ?_)
  · refine sx_seq (sx_asgD (ev_op (ev_cb (ea_cons (c0 x y _ rfl) ea_nil) int_int) (ev_var rfl) (rd_mod h0)) ?_)
    refine sx_seq (sx_setL (j := 0) (k := 0) (ev_op (c0 x y _ rfl) (ev_var rfl) (rd_fdiv ⟨h0, h1⟩)) (ev_ref rfl) ev_int rfl (by show 0 < 2; decide) ?_)
    refine sx_retD (ev_var rfl) (k _ (x / n) y (Int.emod_nonneg _ (by omega)) (Int.emod_lt_of_pos _ h0) ⟨Int.ediv_nonneg hx (by omega), hy, hy1⟩)
  · refine sx_seq (sx_setL (j := 1) (k := 0) (ev_op (ev_cb (ea_cons (ev_op (ev_op (c1 x y _ rfl) ev_int (mu_int (.inr (by omega)))) ev_int ad_int) ea_nil) int_int) ev_int (rd_mod (by decide))) (ev_ref rfl) ev_int rfl (by show 1 < 2; decide) ?_)
    have hb := Int.emod_nonneg (y * 31383 + 8305) (show (2147483399 : Int) ≠ 0 by decide)
    have hb2 := Int.emod_lt_of_pos (y * 31383 + 8305) (show (0 : Int) < 2147483399 by decide)
    generalize (y * 31383 + 8305) % 2147483399 = y2 at hb hb2
    refine sx_seq (sx_asgD (ev_op (ev_cb (ea_cons (ev_op (c1 x y2 _ rfl) (ev_op (c1 x y2 _ rfl) ev_int ad_int) (mu_int (.inr (by omega)))) ea_nil) int_int) ev_int (rd_mod (by decide))) ?_)
    refine sx_retD (ev_op (ev_cb (ea_cons (ev_op (ev_var rfl) ev_int (rd_fdiv (by constructor <;> decide))) ea_nil) int_int) (ev_var rfl) (rd_mod h0)) (k _ x y2 (Int.emod_nonneg _ (by omega)) (Int.emod_lt_of_pos _ h0) ⟨hx, hb, by omega⟩)
abbrev R__law_some : Pr := fun es O Z => ∃ c x y ds, es = [.r c, .d (.list ds)] ∧ O = [cup c x y] ∧ Cup x y ∧ ds ≠ [] ∧ ds.length < 1073741824 ∧ ∀ d x' y', d ∈ ds → Cup x' y' → Z (.d d) [cup c x' y']
theorem b_some {c : Addr} {x y : Int} {ds : List PyData} (h : Cup x y) (h0 : ds ≠ []) (h1 : ds.length < 1073741824) (k : ∀ d x' y', d ∈ ds → Cup x' y' → P (.rt (.d d) [cup c x' y'])) :
    SX (t__law_some K R__law_roll) [.r c, .d (.list ds)] [cup c x y] P := by
  have hl : 0 < ds.length := List.length_pos_iff.mpr h0
  refine sx_ret (ev_opX ((ev_var rfl).to ⟨_, rfl, ?_⟩))
  refine ev_call1 (ex_cons ((ev_ref rfl).to (ex_cons ((ev_cb (ea_cons (ev_var rfl) ea_nil) len_lst).to (ex_nil ⟨0, _, rfl, c, x, y, _, rfl, rfl, h, by omega, by omega, fun r x' y' q0 q1 q2 => ⟨_, rfl, ?_⟩⟩)))))
  have hr : r.toNat < ds.length := by omega
  refine ⟨_, ds[r.toNat], rfl, ix_lstD (atD (j := r.toNat) (by omega) (List.getElem?_eq_getElem hr)), k _ x' y' (List.getElem_mem hr) q2⟩
end

section
variable {K : PySem.W.Frag} {O : Own} {P : Out → Prop} {ρ : List E} {Z : E → Own → Prop} {te tn tl : TE} {c : Addr} {x y n : Int}
theorem ev_roll (hc : EvR te ρ c) (hn : EvD tn ρ [cup c x y] (.int n)) (h : Cup x y) (h0 : 0 < n) (h1 : n < 1073741824) (k : ∀ r x' y', 0 ≤ r → r < n → Cup x' y' → Z (.d (.int r)) [cup c x' y']) :
    Ev (tCall (spX R__law_roll) [] E0 (tCons te (tCons tn tNil))) ρ [cup c x y] Z :=
  ev_call1 (ex_cons (hc.to (ex_cons (hn.to (ex_nil ⟨0, _, rfl, c, x, y, n, rfl, rfl, h, h0, h1, fun r x' y' q0 q1 q2 => ⟨_, rfl, k r x' y' q0 q1 q2⟩⟩)))))
theorem ev_some (hc : EvR te ρ c) (hl : Ev tl ρ O (fun r O1 => ∃ ds x y, r = .d (.list ds) ∧ O1 = [cup c x y] ∧ Cup x y ∧ ds ≠ [] ∧ ds.length < 1073741824 ∧ ∀ d x' y', d ∈ ds → Cup x' y' → Z (.d d) [cup c x' y'])) :
    Ev (tCall (spX R__law_some) [] E0 (tCons te (tCons tl tNil))) ρ O Z :=
  ev_call1 (ex_cons (hc.to (ex_cons (hl.weak fun r O1 z => by
    obtain ⟨ds, x, y, rfl, rfl, h, h0, h1, k⟩ := z
    exact ex_nil ⟨0, _, rfl, c, x, y, ds, rfl, rfl, h, h0, h1, fun d x' y' q0 q1 => ⟨_, rfl, k d x' y' q0 q1⟩⟩))))
structure Byts (ns : List Int) : Prop where
  byt : ∀ o ∈ ns, 0 ≤ o ∧ o ≤ 255
abbrev R__law_file : Pr := fun es O Z => ∃ c x y n, es = [.r c, .d (.int n)] ∧ O = [cup c x y] ∧ Cup x y ∧ 0 ≤ n ∧ n ≤ 1000 ∧ ∀ ns x' y', Byts ns → (ns.length : Int) ≤ n → Cup x' y' → Z (.d (octD ns)) [cup c x' y']
theorem b_file (h : Cup x y) (h0 : 0 ≤ n) (h1 : n ≤ 1000) (k : ∀ ns x' y', Byts ns → (ns.length : Int) ≤ n → Cup x' y' → P (.rt (.d (octD ns)) [cup c x' y'])) :
    SX (t__law_file K R__law_roll R__law_some) [.r c, .d (.int n), .un, .un] [cup c x y] P := by
  refine sx_seq (sx_asg (ev_roll (ev_ref rfl) ev_int h (by decide) (by decide) fun base x1 y1 b0 b1 h1' => ?_))
  refine sx_ret (ev_cbX (ex_cons (ev_lcXX (ex_rng1 (ex_cons (ev_roll (ev_ref rfl) (ev_op (ev_var rfl) ev_int ad_int) h1' (by omega) (by omega) fun r x2 y2 r0 r1 h2 => ex_nil ⟨r, rfl, by omega, ?_⟩))))))
  refine ⟨by rw [rngD_len]; omega, fun i acc O1 => ∃ ns x y, acc = ns.map .int ∧ ns.length = i ∧ Byts ns ∧ Cup x y ∧ O1 = [cup c x y], ⟨[], x2, y2, rfl, rfl, ⟨fun o ho => (by cases ho)⟩, h2, rfl⟩, ?_, ?_⟩
  · rintro i d acc O1 hd ⟨ns, x3, y3, rfl, hl, hb, h3, rfl⟩
    refine ⟨_, _, true, eg_name, fun j hj => hj, et_yes, fun _ => ?_, fun hh => by cases hh⟩
    refine ev_some (ev_ref rfl) (ev_lstX (ex_cons ((ev_var rfl).to (ex_cons ((ev_var rfl).to (ex_cons (ev_roll (ev_ref rfl) ev_int h3 (by decide) (by decide) fun r4 x4 y4 q0 q1 h4 => ex_nil ⟨[.int base, .int base, .int r4], rfl, by show 3 ≤ 100000; decide, ?_⟩)))))))
    refine ⟨_, x4, y4, rfl, rfl, h4, List.cons_ne_nil _ _, by show 3 < 1073741824; decide, fun d' x5 y5 hm h5 => ?_⟩
    obtain ⟨o, rfl, ho⟩ : ∃ o : Int, d' = .int o ∧ 0 ≤ o ∧ o ≤ 255 := by
      rcases List.mem_cons.mp hm with rfl | hm
      · exact ⟨base, rfl, by omega, by omega⟩
      · rcases List.mem_cons.mp hm with rfl | hm
        · exact ⟨base, rfl, by omega, by omega⟩
        · rcases List.mem_cons.mp hm with rfl | hm
          · exact ⟨r4, rfl, by omega, by omega⟩
          · cases hm
    refine ⟨.int o, rfl, ns ++ [o], x5, y5, by rw [List.map_append]; rfl, by rw [List.length_append, hl]; rfl, ⟨fun z hz => ?_⟩, h5, rfl⟩
    rcases List.mem_append.mp hz with hz | hz
    · exact hb.byt z hz
    · rw [List.mem_singleton.mp hz]
      exact ho
  · rintro acc O1 ⟨ns, x3, y3, rfl, hl, hb, h3, rfl⟩
    rw [rngD_len] at hl
    exact ex_nil ⟨[.list (ns.map .int)], octD ns, rfl, tup_lst, k ns x3 y3 hb (by omega) h3⟩
theorem ev_file (hc : EvR te ρ c) (hn : EvD tn ρ [cup c x y] (.int n)) (h : Cup x y) (h0 : 0 ≤ n) (h1 : n ≤ 1000) (k : ∀ ns x' y', Byts ns → (ns.length : Int) ≤ n → Cup x' y' → Z (.d (octD ns)) [cup c x' y']) :
    Ev (tCall (spX R__law_file) [] E0 (tCons te (tCons tn tNil))) ρ [cup c x y] Z :=
  ev_call1 (ex_cons (hc.to (ex_cons (hn.to (ex_nil ⟨0, _, rfl, c, x, y, n, rfl, rfl, h, h0, h1, fun ns x' y' q0 q1 q2 => ⟨_, rfl, k ns x' y' q0 q1 q2⟩⟩)))))
theorem mem_two {a b : Int} {d : PyData} (h : d ∈ [PyData.int a, .int b]) : d = .int a ∨ d = .int b := by
  rcases List.mem_cons.mp h with h | h
  · exact .inl h
  · exact .inr (List.mem_singleton.mp h)
end

section
variable {K : PySem.W.Frag} {O : Own} {P : Out → Prop} {ρ : List E} {Z : E → Own → Prop} {te tn tl : TE} {c : Addr} {x y n : Int}
/-- a slice of a row of ints -/
def cutI (ns : List Int) (lo hi : Option Int) : List Int := (ns.drop (HT.sIx ns.length 0 lo)).take (HT.sIx ns.length ns.length hi - HT.sIx ns.length 0 lo)
theorem cut_I (ns : List Int) (lo hi : Option Int) : cutD (ns.map .int) lo hi = (cutI ns lo hi).map .int := by
  unfold cutD cutI
  rw [List.length_map, ← List.map_drop, ← List.map_take]
theorem cutI_mem {ns : List Int} {lo hi : Option Int} {o : Int} (h : o ∈ cutI ns lo hi) : o ∈ ns := List.mem_of_mem_drop (List.mem_of_mem_take h)
theorem cutI_len (ns : List Int) (lo hi : Option Int) : (cutI ns lo hi).length ≤ HT.sIx ns.length ns.length hi - HT.sIx ns.length 0 lo := by
  unfold cutI
  rw [List.length_take]
  omega
theorem rep_ints (ns : List Int) (k : Nat) : (List.replicate k (ns.map PyData.int)).flatten = (List.replicate k ns).flatten.map .int := by
  induction k with
  | zero => rfl
  | succ k ih => rw [List.replicate_succ, List.replicate_succ, List.flatten_cons, List.flatten_cons, List.map_append, ih]
theorem rep_mem {ns : List Int} {k : Nat} {o : Int} (h : o ∈ (List.replicate k ns).flatten) : o ∈ ns := by
  obtain ⟨l, h1, h2⟩ := List.mem_flatten.mp h
  rw [List.eq_of_mem_replicate h1] at h2
  exact h2
theorem rep_len (ns : List Int) (k : Nat) : (List.replicate k ns).flatten.length = k * ns.length := by
  induction k with
  | zero => simp
  | succ k ih => rw [List.replicate_succ, List.flatten_cons, List.length_append, ih, Nat.succ_mul]; omega
abbrev R__law_octets : Pr := fun es O Z => ∃ c x y n, es = [.r c, .d (.int n)] ∧ O = [cup c x y] ∧ Cup x y ∧ 0 ≤ n ∧ n ≤ 1000 ∧ ∀ ns x' y', Byts ns → (ns.length : Int) ≤ 4 * n → Cup x' y' → Z (.d (octD ns)) [cup c x' y']
theorem b_octets (h : Cup x y) (h0 : 0 ≤ n) (h1 : n ≤ 1000) (k : ∀ ns x' y', Byts ns → (ns.length : Int) ≤ 4 * n → Cup x' y' → P (.rt (.d (octD ns)) [cup c x' y'])) :
    SX (t__law_octets K R__law_roll R__law_file R__law_some) [.r c, .d (.int n), .un, .un, .un] [cup c x y] P := by
  refine sx_seq (sx_asgD (ev_tup ea_nil (by decide)) ?_)
  refine sx_seq (sx_forX (ex_rng1 (ex_cons (ev_roll (ev_ref rfl) ev_int h (by decide) (by decide) fun r x1 y1 r0 r1 h1' => ex_nil ⟨r, rfl, by omega, ?_⟩))))
  refine ⟨fun i ρ1 O1 => ∃ ns x y e3, ρ1 = [.r c, .d (.int n), .d (octD ns), e3, .un] ∧ O1 = [cup c x y] ∧ Cup x y ∧ Byts ns ∧ ns.length ≤ i * 4000, ⟨[], x1, y1, .un, rfl, rfl, h1', ⟨fun o ho => (by cases ho)⟩, Nat.le_refl _⟩, ?_, ?_⟩
  · rintro i d ρ1 O1 hd ⟨ns, x2, y2, e3, rfl, rfl, h2, hb, hl⟩
    have hi := rngD_get hd
    have hi3 : i < 4 := by omega
    refine ⟨_, _, eg_name, sx_asg (ev_opX ((ev_var rfl).to ⟨_, rfl, ?_⟩))⟩
    -- what is drawn
    have fin : ∀ (ms : List Int) (x3 y3 : Int), Byts ms → ms.length ≤ 4000 → Cup x3 y3 → ∃ (yy z : PyData), E.d (octD ms) = E.d yy ∧ RD (rAddU K) (octD ns) yy z ∧ ∃ ns x y e3,
        ([.r c, .d (.int n), .d (octD ns), .d d, .un] : List E).set 2 (.d z) = [.r c, .d (.int n), .d (octD ns), e3, .un] ∧ [cup c x3 y3] = [cup c x y] ∧ Cup x y ∧ Byts ns ∧ ns.length ≤ (i + 1) * 4000 := fun ms x3 y3 hm hml h3 =>
      ⟨octD ms, octD (ns ++ ms), rfl, by
        have := ad_tup (K := K) (xs := ns.map .int) (ys := ms.map .int) (by rw [List.length_map, List.length_map]; omega)
        rw [← List.map_append] at this
        exact this, ns ++ ms, x3, y3, .d d, rfl, rfl, h3, ⟨fun o ho => (List.mem_append.mp ho).elim (hb.byt o) (hm.byt o)⟩, by rw [List.length_append]; omega⟩
    refine ev_some (ev_ref rfl) (ev_lstX (ex_cons (ev_file (ev_ref rfl) (ev_var rfl) h2 h0 h1 fun n1 x3 y3 b1 l1 h3 => ?_)))
    refine ex_cons (ev_opX (ev_file (ev_ref rfl) ev_int h3 (by decide) (by decide) fun n2 x4 y4 b2 l2 h4 => ⟨_, rfl, ev_int.to ⟨_, _, rfl, mu_tup (by decide) (by decide) (by rw [List.length_map]; show n2.length * 3 ≤ 1000000; omega), ?_⟩⟩))
    refine ex_cons ((ev_sl (lo := some (-9)) (hi := none) (ev_var rfl) (eo_some (ev_un ev_int (z := .int (-9)) fun F G H vx w a Q q => ⟨9, a.isInt, q _ G H (Ex.refl G) w (.int _)⟩)) eo_no rs_tup).to ?_)
    refine ex_cons (ev_cbX (ex_cons (ev_lcX (ei_rng1 (ea_cons (ev_op (ev_var rfl) ev_int (rd_fdiv (by constructor <;> decide))) ea_nil) (by omega)) (by rw [rngD_len]; omega) (fun i acc O1 => ∃ ns x y, acc = ns.map .int ∧ ns.length = i ∧ Byts ns ∧ Cup x y ∧ O1 = [cup c x y]) ⟨[], x4, y4, rfl, rfl, ⟨fun o ho => (by cases ho)⟩, h4, rfl⟩ ?_ ?_)))
    · rintro j d acc O1 hd2 ⟨n4, x5, y5, rfl, hl4, hb4, h5, rfl⟩
      refine ⟨_, _, true, eg_name, fun j hj => hj, et_yes, fun _ => ev_roll (ev_ref rfl) ev_int h5 (by decide) (by decide) fun r6 x6 y6 q0 q1 h6 => ?_, fun hh => by cases hh⟩
      refine ⟨.int r6, rfl, n4 ++ [r6], x6, y6, by rw [List.map_append]; rfl, by rw [List.length_append, hl4]; rfl, ⟨fun z hz => ?_⟩, h6, rfl⟩
      rcases List.mem_append.mp hz with hz | hz
      · exact hb4.byt z hz
      · rw [List.mem_singleton.mp hz]
        omega
    · rintro acc O1 ⟨n4, x5, y5, rfl, hl4, hb4, h5, rfl⟩
      rw [rngD_len] at hl4
      refine ex_nil ⟨[.list (n4.map .int)], octD n4, rfl, tup_lst, ex_nil ⟨[octD n1, octD (List.replicate 3 n2).flatten, octD (cutI ns (some (-9)) none), octD n4], ?_, by show 4 ≤ 100000; decide, ?_⟩⟩
      · have e1 := rep_ints n2 3
        have e2 := cut_I ns (some (-9)) none
        show [E.d (octD n1), E.d (.tuple (List.replicate 3 (n2.map PyData.int)).flatten), E.d (.tuple (cutD (ns.map .int) (some (-9)) none)), E.d (octD n4)] = _
        rw [e1, e2]
        rfl
      · refine ⟨_, x5, y5, rfl, rfl, h5, List.cons_ne_nil _ _, by show 4 < 1073741824; decide, fun d' x6 y6 hm h6 => ?_⟩
        rcases List.mem_cons.mp hm with rfl | hm
        · exact fin n1 x6 y6 b1 (by omega) h6
        · rcases List.mem_cons.mp hm with rfl | hm
          · exact fin _ x6 y6 ⟨fun o ho => b2.byt o (rep_mem ho)⟩ (by rw [rep_len]; omega) h6
          · rcases List.mem_cons.mp hm with rfl | hm
            · refine fin _ x6 y6 ⟨fun o ho => hb.byt o (cutI_mem ho)⟩ ?_ h6
              have := cutI_len ns (some (-9)) none
              have e : HT.sIx ns.length 0 (some (-9)) = ((-9 : Int) + (ns.length : Int)).toNat := rfl
              have e2 : HT.sIx ns.length ns.length none = ns.length := rfl
              rw [e, e2] at this
              omega
            · rw [List.mem_singleton.mp hm]
              exact fin n4 x6 y6 hb4 (by omega) h6
  · rintro ρ1 O1 ⟨ns, x2, y2, e3, rfl, rfl, h2, hb, hl⟩
    refine sx_retD (ev_sl (lo := none) (hi := some (4 * n)) (ev_var rfl) eo_no (eo_some (ev_op ev_int (ev_var rfl) (mu_int (.inl (by omega))))) rs_tup) ?_
    rw [cut_I]
    refine k _ x2 y2 ⟨fun o ho => hb.byt o (cutI_mem ho)⟩ ?_ h2
    have := cutI_len ns none (some (4 * n))
    have e : HT.sIx ns.length 0 none = 0 := rfl
    have e2 : HT.sIx ns.length ns.length (some (4 * n)) = if 4 * n < 0 then (4 * n + (ns.length : Int)).toNat else min (4 * n).toNat ns.length := rfl
    rw [e, e2, if_neg (by omega)] at this
    omega
/-! ### the same plain value, told twice -/
mutual
def plD : Nat → PyData → Bool
  | _, .none | _, .bool _ | _, .int _ => true
  | _, .str s => SeqAt.shaped (.str s)
  | 0, .tuple _ => false
  | n + 1, .tuple xs => decide (xs.length ≤ 100000) && plA n xs
  | _, _ => false
def plA : Nat → List PyData → Bool
  | _, [] => true
  | n, x :: xs => plD n x && plA n xs
end
theorem plA_get {n : Nat} : ∀ {xs : List PyData} {i : Nat} {d : PyData}, plA n xs = true → xs[i]? = some d → plD n d = true
  | [], _, _, _, h => by simp at h
  | x :: xs, 0, d, h, e => by
    unfold plA at h
    simp at e
    subst e
    exact (Bool.and_eq_true_iff.mp h).1
  | x :: xs, i + 1, d, h, e => by
    unfold plA at h
    exact plA_get (i := i) (Bool.and_eq_true_iff.mp h).2 (by simpa using e)
theorem plA_ints (n : Nat) : ∀ ns : List Int, plA n (ns.map .int) = true
  | [] => by rw [List.map_nil]; unfold plA; rfl
  | o :: ns => by
    rw [List.map_cons]
    unfold plA
    rw [plA_ints n ns]
    cases n <;> (unfold plD; rfl)
def Rs : Nat → Pr
  | 0 => fun _ _ _ => False
  | n + 1 => prD fun ds d => ∃ x, ds = [x, x] ∧ plD n x = true ∧ d = .bool true
theorem eqv_str {s : Str} : PyData.eqv (.str s) (.str s) = true := by simp [PyData.eqv]
theorem b_same {m : Nat} {v : PyData} (h : plD m v = true) (k : P (.rt (.d (.bool true)) O)) : SX (t__law_same K (Rs m)) [.d v, .d v, .un] O P := by
  refine sx_seq ?_
  refine sx_if (et_B (ev_isi (ev_var rfl) (k_tup v))) (fun ht => ?_) fun ht => sx_next ?_
  · cases v with
    | tuple xs =>
      obtain ⟨n, rfl⟩ : ∃ n, m = n + 1 := by
        cases m with
        | zero => unfold plD at h; cases h
        | succ n => exact ⟨n, rfl⟩
      unfold plD at h
      obtain ⟨hl, hp⟩ := Bool.and_eq_true_iff.mp h
      have hl := of_decide_eq_true hl
      refine sx_seq (sx_if (b := false) ((et_or (et_not (et_B (ev_isi (ev_var rfl) (k_tup _)))) fun _ => et_test (ev_op (ev_cb (ea_cons (ev_var rfl) ea_nil) len_tup) (ev_cb (ea_cons (ev_var rfl) ea_nil) len_tup) (rd_ne rfl rfl))).is ?_) (fun hh => by cases hh) fun _ => sx_next ?_)
      · show (false || !((xs.length : Int) == (xs.length : Int))) = false
        simp
      · have hlc := ev_lcM (te := tCall (spX (Rs (n + 1))) [] E0 (tCons (tOp (rIx K) (tVar 0) (tVar 2)) (tCons (tOp (rIx K) (tVar 1) (tVar 2)) tNil))) (g := gName 2) (vs := [2]) (O := O)
          (ei_rng1 (ea_cons (ev_cb (ea_cons (ev_var (i := 1) (ρ := [.d (.tuple xs), .d (.tuple xs), .un]) (d := .tuple xs) rfl) ea_nil) (len_tup (K := K))) ea_nil) (by omega)) (by rw [rngD_len]; omega) (fun _ => .bool true) fun i d hd => by
            obtain ⟨hi, rfl⟩ := rngD_get hd
            have hix : i < xs.length := by omega
            have e : L2.atI xs (0 + (i : Int)) = some xs[i] := atD (j := i) (by omega) (List.getElem?_eq_getElem hix)
            exact ⟨_, _, eg_name, fun j hj => hj, ev_callD (ea_cons (ev_op (ev_var rfl) (ev_var rfl) (ix_tupD e)) (ea_cons (ev_op (ev_var rfl) (ev_var rfl) (ix_tupD e)) ea_nil)) ⟨_, rfl, plA_get hp (List.getElem?_eq_getElem hix), rfl⟩⟩
        have e : (rngD 0 ((xs.length : Int)).toNat).map (fun _ => PyData.bool true) = (List.replicate xs.length true).map .bool := by
          rw [List.map_const', rngD_len, Int.toNat_natCast, List.map_replicate]
        rw [e] at hlc
        refine sx_retD ((ev_cb (ea_cons hlc ea_nil) rc_all).is ?_) k
        rw [List.all_replicate]
        simp
    | _ => cases ht
  · refine sx_seq (sx_if (et_test (ev_op (ev_var rfl) ev_non is_non)) (fun hn => sx_retD ((ev_op (ev_var rfl) ev_non is_non).is (by rw [hn])) k) fun hn => sx_next ?_)
    refine sx_seq (sx_if (et_B (ev_isi (ev_var rfl) (k_bool v))) (fun hb => ?_) fun hb => sx_next ?_)
    · cases v with
      | bool b =>
        refine sx_retD (ev_if (et_B (ev_var rfl)) (fun hc => (ev_op (ev_var rfl) ev_bl is_bl).is ?_) fun hc => (ev_op (ev_var rfl) ev_bl is_bl).is ?_) k
        · rw [hc]
          rfl
        · rw [hc]
          rfl
      | _ => cases hb
    · refine sx_seq (sx_if (et_B (ev_isi (ev_var rfl) (k_int v))) (fun hi => ?_) fun hi => sx_next ?_)
      · cases v with
        | int i =>
          refine sx_retD ((ev_and (ev_isi (ev_var rfl) (k_int _)) fun _ => ev_and (ev_not (ev_isi (ev_var rfl) (k_bool _))) fun _ => ev_op (ev_cb (ea_cons (ev_var rfl) ea_nil) int_int) (ev_var rfl) (rd_eq rfl rfl)).is ?_) k
          show PyData.bool (true && (!false && (i == i))) = .bool true
          simp
        | bool b => cases hb
        | _ => cases hi
      · cases v with
        | str s =>
          unfold plD at h
          refine sx_retD ((ev_and (ev_isi (ev_var rfl) (k_str _)) fun _ => ev_op (ev_cb (ea_cons (ev_var rfl) ea_nil) str_str) (ev_var rfl) (rd_eq h h)).is ?_) k
          rw [eqv_str]
          rfl
        | none => cases hn
        | bool b => cases hb
        | int i => cases hi
        | tuple xs => cases ht
        | list xs => unfold plD at h; cases h
        | dict xs => unfold plD at h; cases h
end

section
variable {K : PySem.W.Frag} {O : Own} {P : Out → Prop} {ρ : List E}
theorem lay_ints : ∀ ns : List Int, PyData.canLayAll0 (ns.map .int) = true
  | [] => rfl
  | n :: ns => by
    show (true && PyData.canLayAll0 (ns.map .int)) = true
    rw [lay_ints ns]
    rfl
end

section
variable {K : PySem.W.Frag} {O : Own} {P : Out → Prop} {ρ : List E}
theorem deep_ints : ∀ ns : List Int, PyData.depthAll (ns.map .int) = 0
  | [] => rfl
  | n :: ns => by
    show max 0 (PyData.depthAll (ns.map .int)) = 0
    rw [deep_ints ns]
    rfl
theorem shaped_L (ns : List Int) : SeqAt.shaped (.list (ns.map .int)) = true := by
  show (PyData.canLayAll0 (ns.map .int) && decide (PyData.depthAll (ns.map .int) + 1 ≤ 64)) = true
  rw [lay_ints, deep_ints]
  rfl
theorem shaped_T (ns : List Int) : SeqAt.shaped (.tuple (ns.map .int)) = true := by
  show (PyData.canLayAll0 (ns.map .int) && decide (PyData.depthAll (ns.map .int) + 1 ≤ 64)) = true
  rw [lay_ints, deep_ints]
  rfl
end

section
variable {K : PySem.W.Frag} {O : Own} {P : Out → Prop} {ρ : List E} {Z : E → Own → Prop} {te tn tl : TE} {c : Addr} {x y n : Int}
theorem ev_octets (hc : EvR te ρ c) (hn : EvD tn ρ [cup c x y] (.int n)) (h : Cup x y) (h0 : 0 ≤ n) (h1 : n ≤ 1000) (k : ∀ ns x' y', Byts ns → (ns.length : Int) ≤ 4 * n → Cup x' y' → Z (.d (octD ns)) [cup c x' y']) :
    Ev (tCall (spX R__law_octets) [] E0 (tCons te (tCons tn tNil))) ρ [cup c x y] Z :=
  ev_call1 (ex_cons (hc.to (ex_cons (hn.to (ex_nil ⟨0, _, rfl, c, x, y, n, rfl, rfl, h, h0, h1, fun ns x' y' q0 q1 q2 => ⟨_, rfl, k ns x' y' q0 q1 q2⟩⟩)))))
theorem eqv_oct (ns : List Int) : PyData.eqv (octD ns) (octD ns) = true := SeqAt.eqv_refl _ (lay_ints ns)
theorem plA_octs (n : Nat) : ∀ cs : List (List Int), (∀ c ∈ cs, c.length ≤ 100000) → plA (n + 1) (cs.map octD) = true
  | [], _ => by rw [List.map_nil]; unfold plA; rfl
  | c :: cs, h => by
    rw [List.map_cons]
    unfold plA
    rw [plA_octs n cs fun x hx => h x (List.mem_cons_of_mem _ hx)]
    have : plD (n + 1) (octD c) = true := by
      unfold plD
      rw [plA_ints, decide_eq_true (by rw [List.length_map]; exact h c List.mem_cons_self)]
      rfl
    rw [this]
    rfl
theorem pl_oct (n : Nat) {ns : List Int} (h : ns.length ≤ 100000) : plD (n + 1) (octD ns) = true := by
  unfold plD
  rw [plA_ints, decide_eq_true (by rw [List.length_map]; exact h)]
  rfl
end
/-! ### the cup's making, the law -/
theorem Wd.none {H : Hp} : Wd [] H H := ⟨Ex.refl H, fun p hp => (by cases hp), List.nodup_nil⟩
theorem Wd.one {H : Hp} {p : Addr} {o : HO} {oo : OO} (h : H p = some o) (k : Or (fun b => if b = p then Option.none else H b) o oo) : Wd ([(p, oo)] ++ []) (fun b => if b = p then Option.none else H b) H := by
  refine ⟨fun b u q => ?_, fun q hq => ?_, by simp⟩
  · by_cases e : b = p
    · rw [if_pos e] at q
      cases q
    · rw [if_neg e] at q
      exact q
  · have e : q = (p, oo) := by simpa using hq
    subst e
    exact ⟨o, h, k, if_pos rfl⟩
theorem sx_run {ts : TS} {ρ : List E} {O : Own} {P : Out → Prop} {G H : Hp} {σ : L2.St} {D : Ends} (h : SX ts ρ O P) (w : Wd (O ++ []) G H) (s : Sl G σ ρ) (q : ∀ o, P o → Fin [] G D o) : ts D σ H := h [] G H σ D w s q
section
variable {K : PySem.W.Frag}
def S__law_cup (K : PySem.W.Frag) : Sp := fun vs H Q _ => ∃ (a : Addr) (ns : List Int), vs = [.ref a] ∧ SqL K H a (ns.map V.int) ∧ ns.length ≤ 63 ∧
  ∀ (p : Addr) (x y : Int) (H' : Hp), H p = none → Ex H H' → H' p = some (.lst [.int x, .int y]) → Cup x y → Q (.ref p) H'
theorem b_cup {vs : List V} {H : Hp} {Q : VK} {XE : XK} (h : S__law_cup K vs H Q XE) : t__law_cup K { nx := fun _ H' => Q .non H', rt := Q } (L2.start ["script", "cell"] vs) H := by
  obtain ⟨a, ns, rfl, hS, hl, k⟩ := h
  refine ⟨.ref a, rfl, a, ns.map V.int, rfl, .inl hS, fun l hl1 => ?_⟩
  refine ⟨by show 1 ≤ sizeLine; decide, fun p hp => ?_⟩
  have nlp : l ≠ p := fun e => by
    subst e
    rw [upd_same] at hp
    cases hp
  refine .inr (.inr (.inr ⟨l, p, ns.map V.int, [.int 0], rfl, rfl, by rw [upd_ne nlp, upd_same], upd_same, sz5 (by rw [List.length_map]; show ns.length + 1 ≤ 100000; omega), fun q hq => ?_⟩))
  obtain ⟨i, hi⟩ : ∃ i : Int, (ns.map V.int ++ [V.int 0])[0]? = some (.int i) := by
    cases ns with
    | nil => exact ⟨0, rfl⟩
    | cons n r => exact ⟨n, rfl⟩
  refine .inl ⟨q, ns.map V.int ++ [.int 0], 0, .int i, rfl, rfl, SqL.of upd_same, atI_nat (j := 0) hi, ?_⟩
  refine ⟨i, rfl, ?_⟩
  have hx : Ex H (upd (upd (upd H l (.lst (ns.map V.int))) p (.lst [.int 0])) q (.lst (ns.map V.int ++ [.int 0]))) := ((Ex.new hl1).trans (Ex.new hp)).trans (Ex.new hq)
  generalize upd (upd (upd H l (.lst (ns.map V.int))) p (.lst [.int 0])) q (.lst (ns.map V.int ++ [.int 0])) = H1 at hx
  have habs : 0 ≤ (if i < 0 then -i else i) := by split <;> omega
  generalize hz : (if i < 0 then -i else i) = z at habs
  have body : SX (tRet (tLst (tCons (tIf (tTest (tOp (rI0 fun i j => .bl (decide (j ≤ i))) (tVar 1) (tOp (rI CPow fun i j => .int (i ^ j.toNat)) (tC (.int 10)) (tC (.int 18))))) (tOp (rI CDiv fun i j => .int (i / j)) (tVar 1) (tC (.int 165))) (tC (.int 0))) (tCons (tOp (rAddU K) (tOp (rI (fun _ j => 0 < j) fun i j => .int (i % j)) (tCB rIntOf (tCons (tOp (rAddU K) (tOp (rMulU K) (tVar 1) (tC (.int 429))) (tC (.int 4597))) tNil)) (tC (.int 2077503101))) (tC (.int 299))) tNil)))) [.un, .d (.int z)] []
      (fun o => ∃ p x y, o = .rt (.r p) [cup p x y] ∧ Cup x y) := by
    have hb := Int.emod_nonneg (z * 429 + 4597) (show (2077503101 : Int) ≠ 0 by decide)
    have hb2 := Int.emod_lt_of_pos (z * 429 + 4597) (show (0 : Int) < 2077503101 by decide)
    refine sx_ret (ev_own (EvA.ex (ea_cons (ev_if (d := .int (if (10 : Int) ^ (18 : Int).toNat ≤ z then z / 165 else 0)) (et_test (ev_op (ev_var rfl) (ev_op ev_int ev_int (rd_pow ⟨by decide, by decide, by decide⟩)) rd_ge)) (fun hc => (ev_op (ev_var rfl) ev_int (rd_fdiv ⟨by decide, by decide⟩)).is ?_) fun hc => ev_int.is ?_) (ea_cons (ev_op (ev_op (ev_cb (ea_cons (ev_op (ev_op (ev_var rfl) ev_int (mu_int (.inr (by decide)))) ev_int ad_int) ea_nil) int_int) ev_int (rd_mod (by decide))) ev_int ad_int) ea_nil)) ⟨by show 2 ≤ 100000; decide, fun p => ⟨p, _, _, rfl, ?_, by omega, by omega⟩⟩))
    · rw [if_pos (of_decide_eq_true hc)]
    · rw [if_neg (of_decide_eq_false hc)]
    · split
      · exact Int.ediv_nonneg habs (by decide)
      · exact Int.le_refl 0
  refine body [] H1 H1 _ _ Wd.none (.cons trivial (.cons (.of (.int z)) .nil)) fun o ho => ?_
  obtain ⟨p, x, y, rfl, hc⟩ := ho
  intro v G' H' e w hv
  cases (show some v = some (.ref p) from hv)
  obtain ⟨o, h1, h2, h3⟩ := w.own _ List.mem_cons_self
  obtain ⟨xs, rfl, h4⟩ := h2.lstE
  obtain ⟨u1, u2, rfl, r1, r2⟩ := ErS.two h4
  rw [r1.dat.isInt, r2.dat.isInt] at h1
  exact k p x y H' (fresh_back hx (fresh_back e h3)) (hx.trans (e.trans w.sub)) h1 hc
theorem rep_one (o : Int) (k : Nat) : (List.replicate k [PyData.int o]).flatten = (List.replicate k o).map .int := by
  induction k with
  | zero => rfl
  | succ k ih => rw [List.replicate_succ, List.flatten_cons, ih]; rfl
def spLaw (K : PySem.W.Frag) : Sp := fun vs H Q _ => ∃ (a : Addr) (ns : List Int), vs = [.ref a] ∧ SqL K H a (ns.map V.int) ∧ ns.length ≤ 63 ∧ ∀ H', Q (.bl true) H'
theorem law_go {tl : TS} {D : Ends} {a : Addr} {ns : List Int} {σ : L2.St} {H : Hp} {N : Nat} (hN : σ = some (.ref a) :: List.replicate (N + 1) Option.none) (hS : SqL K H a (ns.map V.int)) (hl : ns.length ≤ 63) {P : Out → Prop}
    (h : ∀ p x y, Cup x y → SX tl (.un :: .r p :: List.replicate N .un) [cup p x y] P) (q : ∀ G o, P o → Fin [] G D o) :
    tSeq (tAsg (tCall (S__law_cup K) [] E0 (tCons (tVar 0) tNil)) (gName 1)) tl D σ H := by
  subst hN
  refine ⟨.ref a, rfl, a, ns, rfl, hS, hl, fun p x y H1 hp hx hH hc => ?_⟩
  show tl D (some (.ref a) :: some (.ref p) :: List.replicate N Option.none) H1
  exact sx_run (ts := tl) (h p x y hc) (Wd.one hH (show Or _ (.lst [.int x, .int y]) (.lst [.d (.int x), .d (.int y)]) from .cons (.of (.int x)) (.cons (.of (.int y)) .nil))) (.cons trivial (.cons rfl (Sl.none N))) (q _)
end

section
variable {K : PySem.W.Frag} {O : Own} {P : Out → Prop} {ρ : List E} {te : TE}
theorem len_oct (a : List Int) (h : EvD te ρ O (octD a)) : EvD (tCB (rLenU K) (tCons te tNil)) ρ O (.int (a.length : Nat)) := (ev_cb (ea_cons h ea_nil) len_tup).is (by rw [List.length_map])
def lenD : PyData → PyData
  | .tuple xs => .int (xs.length : Int)
  | _ => .none
theorem lens_eq (cs : List (List Int)) : (cs.map octD).map lenD = (cs.map fun c => (c.length : Int)).map .int := by
  rw [List.map_map, List.map_map]
  apply List.map_congr_left
  intro c _
  show PyData.int ((c.map PyData.int).length : Int) = .int (c.length : Int)
  rw [List.length_map]
def ck (c : List Int) : List Key := c.map Sum.inl
theorem ck_oct (c : List Int) : PyData.tuple ((ck c).map keyD) = octD c := by
  unfold ck
  rw [List.map_map]
  rfl
theorem ck_inj {a b : List Int} : ck a = ck b ↔ a = b := by
  unfold ck
  refine ⟨fun h => ?_, fun h => by rw [h]⟩
  induction a generalizing b with
  | nil =>
    cases b with
    | nil => rfl
    | cons y b => cases h
  | cons x a ih =>
    cases b with
    | nil => cases h
    | cons y b =>
      rw [List.map_cons, List.map_cons] at h
      obtain ⟨h1, h2⟩ := List.cons_eq_cons.mp h
      rw [Sum.inl.inj h1, ih h2]
theorem ck_mem {c : List Int} {cs : List (List Int)} : ck c ∈ cs.map ck ↔ c ∈ cs := by
  rw [List.mem_map]
  exact ⟨fun ⟨x, h, e⟩ => (ck_inj.mp e) ▸ h, fun h => ⟨c, h, rfl⟩⟩
theorem keysD_ck {les : List TE2} {cs : List (List Int)} (h : les.map (·.1) = cs.map ck) : keysD les = cs.map octD := by
  unfold keysD
  have := congrArg (List.map fun k : List Key => PyData.tuple (k.map keyD)) h
  rw [List.map_map, List.map_map] at this
  refine this.trans ?_
  apply List.map_congr_left
  intro c _
  exact ck_oct c
theorem EvI.is {wi : TI} {ds ds' : List PyData} (h : EvI wi ρ O ds) (e : ds = ds') : EvI wi ρ O ds' := e ▸ h
theorem octs_inj : ∀ {xs ys : List (List Int)}, xs.map octD = ys.map octD ↔ xs = ys := by
  intro xs ys
  refine ⟨fun h => ?_, fun h => by rw [h]⟩
  induction xs generalizing ys with
  | nil =>
    cases ys with
    | nil => rfl
    | cons y b => cases h
  | cons x a ih =>
    cases ys with
    | nil => cases h
    | cons y b =>
      rw [List.map_cons, List.map_cons] at h
      obtain ⟨h1, h2⟩ := List.cons_eq_cons.mp h
      have h3 : x.map PyData.int = y.map PyData.int := by
        injection h1
      have h4 : x = y := by
        have := DaS.ints (G := fun _ => none) (vs := x.map V.int) (ns := y) (by rw [← h3]; exact DaS.ofInts x)
        have inj : ∀ {p q : List Int}, p.map V.int = q.map V.int → p = q := by
          intro p q e
          induction p generalizing q with
          | nil =>
            cases q with
            | nil => rfl
            | cons _ _ => cases e
          | cons u p ih =>
            cases q with
            | nil => cases e
            | cons v q =>
              rw [List.map_cons, List.map_cons] at e
              obtain ⟨e1, e2⟩ := List.cons_eq_cons.mp e
              rw [V.int.inj e1, ih e2]
        exact inj this
      rw [h4, ih h2]
theorem eqv_LL : ∀ xs ys : List (List Int), PyData.eqvAll (xs.map octD) (ys.map octD) = decide (xs = ys)
  | [], [] => by simp [PyData.eqvAll]
  | [], _ :: _ => by simp [PyData.eqvAll]
  | _ :: _, [] => by simp [PyData.eqvAll]
  | u :: a, v :: b => by
    have ih := eqv_LL a b
    have e : PyData.eqv (octD u) (octD v) = decide (u = v) := eqv_octs u v
    rw [List.map_cons, List.map_cons]
    simp only [PyData.eqvAll, ih, e]
    by_cases h : u = v <;> by_cases h2 : a = b <;> simp [h, h2]
theorem eqv_lists (xs ys : List (List Int)) : PyData.eqv (.list (xs.map octD)) (.list (ys.map octD)) = decide (xs = ys) := by
  simp only [PyData.eqv]
  exact eqv_LL xs ys
theorem lay_LL : ∀ xs : List (List Int), PyData.canLayAll0 (xs.map octD) = true
  | [] => rfl
  | c :: cs => by
    show (PyData.canLayAll0 (c.map .int) && PyData.canLayAll0 (cs.map octD)) = true
    rw [lay_ints, lay_LL cs]
    rfl
theorem deep_LL : ∀ xs : List (List Int), PyData.depthAll (xs.map octD) ≤ 1
  | [] => Nat.zero_le _
  | c :: cs => by
    show max (PyData.depthAll (c.map .int) + 1) (PyData.depthAll (cs.map octD)) ≤ 1
    rw [deep_ints]
    have := deep_LL cs
    omega
theorem shaped_LL (xs : List (List Int)) : SeqAt.shaped (.list (xs.map octD)) = true := by
  show (PyData.canLayAll0 (xs.map octD) && decide (PyData.depthAll (xs.map octD) + 1 ≤ 64)) = true
  rw [lay_LL, decide_eq_true (by have := deep_LL xs; omega)]
  rfl
theorem shaped_TL (xs : List (List Int)) : SeqAt.shaped (.tuple (xs.map octD)) = true := by
  show (PyData.canLayAll0 (xs.map octD) && decide (PyData.depthAll (xs.map octD) + 1 ≤ 64)) = true
  rw [lay_LL, decide_eq_true (by have := deep_LL xs; omega)]
  rfl
theorem eqv_ints (a b : List Int) : PyData.eqv (.list (a.map .int)) (.list (b.map .int)) = decide (a = b) := by
  simp only [PyData.eqv]
  exact eqvAll_ints a b
theorem cutI_le (a : List Int) (lo hi : Option Int) : (cutI a lo hi).length ≤ a.length := by
  unfold cutI
  rw [List.length_take, List.length_drop]
  omega
end
section
variable {K : PySem.W.Frag} {O : Own} {P : Out → Prop} {ρ : List E} {te : TE}
/-! ### data -/
abbrev ksD (ks : List (List Int)) : PyData := .tuple (ks.map octD)
structure Known (ks : List (List Int)) : Prop where
  len : ks.length ≤ 63
  ne : ∀ k ∈ ks, k ≠ []
  sz : ∀ k ∈ ks, k.length ≤ 512
  byt : ∀ k ∈ ks, ∀ o ∈ k, 0 ≤ o ∧ o ≤ 255
  nd : ks.Nodup
theorem Known.kn {ks : List (List Int)} (h : Known ks) : Kn ks := ⟨h.ne⟩
abbrev strNew : Str := PySem.Str.ofString "new"
abbrev strKnown : Str := PySem.Str.ofString "known"
def pcD : Pc → PyData
  | .new xs => .tuple [.str strNew, octD xs]
  | .kn i => .tuple [.str strKnown, .int (i : Nat)]
abbrev psD (ps : List Pc) : PyData := .tuple (ps.map pcD)
def optD : Option Nat → PyData
  | none => .none
  | some i => .int (i : Nat)
def rowD (r : Row) : PyData := .tuple [.int r.1, .int (r.2.1 : Nat), optD r.2.2]
def wayD : Option (Nat × Option Nat) → PyData
  | none => .none
  | some p => .tuple [.int (p.1 : Nat), optD p.2]
def tabD (p : Int × Option (Nat × Option Nat)) : PyData := .tuple [.int p.1, wayD p.2]
theorem oct_fits {k : List Int} {most : Int} (hl : (k.length : Int) ≤ most) (hb : ∀ o ∈ k, 0 ≤ o ∧ o ≤ 255) : fitsOct (octD k) most = true := by
  show ((decide ((0 : Int) ≤ ((k.map PyData.int).length : Int)) && decide (((k.map PyData.int).length : Int) ≤ most)) && ((k.map PyData.int).all fun o => isWhole o 0 255)) = true
  rw [List.length_map, decide_eq_true (by omega), decide_eq_true hl]
  show ((k.map PyData.int).all fun o => isWhole o 0 255) = true
  rw [List.all_map, List.all_eq_true]
  intro o ho
  have := hb o ho
  show (decide (0 ≤ o) && decide (o ≤ 255)) = true
  rw [decide_eq_true this.1, decide_eq_true this.2]
  rfl
theorem all_true (ks : List PyData) : (ks.map fun _ => PyData.bool true) = (ks.map fun _ => true).map .bool := by rw [List.map_map]; rfl
theorem all_id (ks : List PyData) : (ks.map fun _ => true).all id = true := by rw [List.all_map]; simp
theorem ks_get {ks : List (List Int)} {i : Nat} {d : PyData} (h : (ks.map octD)[i]? = some d) : ∃ k, d = octD k ∧ ks[i]? = some k ∧ k ∈ ks := by
  rw [List.getElem?_map] at h
  obtain ⟨k, hk, rfl⟩ := Option.map_eq_some_iff.mp h
  exact ⟨k, rfl, hk, List.mem_of_getElem? hk⟩
abbrev R_fits_known : Pr := prD fun ds d => ∃ ks, ds = [ksD ks] ∧ Known ks ∧ d = .bool true
theorem b_fits_known {ks : List (List Int)} (h : Known ks) (k : P (.rt (.d (.bool true)) O)) : SX (t_fits_known K R_is_tuple_of R_fits_octets) [.d (ksD ks), .un] O P := by
  have hl := h.len
  have e1 : isTupOf (ksD ks) 0 64 = true := by
    show (decide ((0 : Int) ≤ ((ks.map octD).length : Int)) && decide (((ks.map octD).length : Int) ≤ 64)) = true
    rw [List.length_map, decide_eq_true (by omega), decide_eq_true (by omega)]
    rfl
  refine sx_seq (sx_if (b := false) ((et_or (a := false) (b := false) ((et_not (et_B (ev_callD (ea_cons (ev_var rfl) (ea_cons ev_int (ea_cons ev_int ea_nil))) ⟨ksD ks, 0, 64, rfl, rfl⟩))).is (by rw [e1]; rfl)) fun _ => (et_not (et_B (ev_cb (ea_cons ((ev_lcM (ei_tup (ev_var rfl)) (by rw [List.length_map]; omega) (fun _ => .bool true) fun i d hd => ?_).is (by rw [all_true])) ea_nil) rc_all))).is (by rw [all_id]; rfl)).is rfl) (fun hh => by cases hh) fun _ => sx_next ?_)
  · obtain ⟨q, rfl, hq, hm⟩ := ks_get hd
    have hs := h.sz q hm
    refine ⟨_, _, eg_name, fun j hj => hj, (ev_and (ev_callD (ea_cons (ev_var rfl) (ea_cons ev_int ea_nil)) ⟨octD q, 512, rfl, by decide, rfl⟩) fun _ => ev_op (ev_var rfl) (ev_tup (ds := ([] : List Int).map .int) ea_nil (by decide)) (rd_ne (shaped_T q) rfl)).is ?_⟩
    rw [oct_fits (by omega) (h.byt q hm), eqv_octs]
    have := h.ne q hm
    simp [this]
  · refine sx_retD (ev_op (ev_lenSetT (ev_var rfl) (by omega) h.nd) (ev_cb (ea_cons (ev_var rfl) ea_nil) len_tup) (rd_eq rfl rfl)) ?_
    rw [List.length_map]
    have : PyData.eqv (.int (ks.length : Nat)) (.int (ks.length : Nat)) = true := by simp [PyData.eqv]
    rw [this]
    exact k
abbrev R_need_known : Pr := prD fun ds d => ∃ ks, ds = [ksD ks] ∧ Known ks ∧ d = .none
theorem b_need_known {ks : List (List Int)} (h : Known ks) (k : P (.nx [.d (ksD ks)] O)) : SX (t_need_known K R_fits_known) [.d (ksD ks)] O P :=
  sx_if (b := false) ((et_not (et_B (ev_callD (ea_cons (ev_var rfl) ea_nil) ⟨ks, rfl, h, rfl⟩))).is rfl) (fun hh => by cases hh) fun _ => sx_next k
theorem eqv_nn : PyData.eqv (.str strNew) (.str strNew) = true := by decide +kernel
theorem eqv_nk : PyData.eqv (.str strNew) (.str strKnown) = false := by decide +kernel
theorem eqv_kn : PyData.eqv (.str strKnown) (.str strNew) = false := by decide +kernel
theorem eqv_kk : PyData.eqv (.str strKnown) (.str strKnown) = true := by decide +kernel
theorem sh_n : SeqAt.shaped (.str strNew) = true := by decide +kernel
theorem sh_k : SeqAt.shaped (.str strKnown) = true := by decide +kernel
def tagD : Pc → PyData
  | .new _ => .str strNew
  | .kn _ => .str strKnown
def bodyD : Pc → PyData
  | .new xs => octD xs
  | .kn i => .int (i : Nat)
theorem pcD_eq (p : Pc) : pcD p = .tuple [tagD p, bodyD p] := by cases p <;> rfl
theorem sh_tag (p : Pc) : SeqAt.shaped (tagD p) = true := by
  cases p with
  | new _ => exact sh_n
  | kn _ => exact sh_k
theorem eqv_tagK (p : Pc) : PyData.eqv (tagD p) (.str strKnown) = !p.isNew := by
  cases p with
  | new _ => exact eqv_nk
  | kn _ => exact eqv_kk
theorem eqv_tagN (p : Pc) : PyData.eqv (tagD p) (.str strNew) = p.isNew := by
  cases p with
  | new _ => exact eqv_nn
  | kn _ => exact eqv_kn
theorem eqv_tags (p q : Pc) : PyData.eqv (tagD p) (tagD q) = decide (p.isNew = q.isNew) := by
  cases p with
  | new _ =>
    cases q with
    | new _ => exact eqv_nn
    | kn _ => exact eqv_nk
  | kn _ =>
    cases q with
    | new _ => exact eqv_kn
    | kn _ => exact eqv_kk
theorem ev_tag {i : Nat} {p : Pc} (h : ρ[i]? = some (.d (pcD p))) : EvD (tOp (rIx K) (tVar i) (tC (.int 0))) ρ O (tagD p) := ev_op ((ev_var h).is (pcD_eq p)) ev_int (ix_tupD rfl)
theorem ev_body {i : Nat} {p : Pc} (h : ρ[i]? = some (.d (pcD p))) : EvD (tOp (rIx K) (tVar i) (tC (.int 1))) ρ O (bodyD p) := ev_op ((ev_var h).is (pcD_eq p)) ev_int (ix_tupD rfl)
abbrev R_fits_piece : Pr := prD fun ds d => ∃ ks p, ds = [ksD ks, pcD p] ∧ okP ks p ∧ d = .bool true
theorem b_fits_piece {ks : List (List Int)} {p : Pc} (h : okP ks p) (k : P (.rt (.d (.bool true)) O)) : SX (t_fits_piece K R_is_tuple_of R_is_whole R_fits_octets) [.d (ksD ks), .d (pcD p)] O P := by
  have e1 : isTupOf (pcD p) 2 2 = true := by cases p <;> rfl
  have e2 : isStrD (tagD p) = true := by cases p <;> rfl
  refine sx_seq (sx_if (b := false) ((et_or (a := false) (b := false) ((et_not (et_B (ev_callD (ea_cons (ev_var rfl) (ea_cons ev_int (ea_cons ev_int ea_nil))) ⟨pcD p, 2, 2, rfl, rfl⟩))).is (by rw [e1]; rfl)) fun _ => (et_not (et_B (ev_isi (ev_tag rfl) (k_str _)))).is (by rw [e2]; rfl)).is rfl) (fun hh => by cases hh) fun _ => sx_next ?_)
  refine sx_seq (sx_if ((et_test (ev_op (ev_tag rfl) ev_str (rd_eq (sh_tag p) sh_k))).is (eqv_tagK p)) (fun hc => ?_) fun hc => sx_next ?_)
  · cases p with
    | new xs => cases hc
    | kn i =>
      refine sx_retD (ev_callD (ea_cons (ev_body rfl) (ea_cons ev_int (ea_cons (ev_op (ev_cb (ea_cons (ev_var rfl) ea_nil) len_tup) ev_int rd_sub) ea_nil))) ⟨.int (i : Nat), 0, _, rfl, rfl⟩) ?_
      have : isWhole (.int (i : Nat)) 0 (((ks.map octD).length : Int) - 1) = true := by
        show (decide (0 ≤ (i : Int)) && decide ((i : Int) ≤ ((ks.map octD).length : Int) - 1)) = true
        have hi : i < ks.length := h
        rw [List.length_map, decide_eq_true (by omega), decide_eq_true (by omega)]
        rfl
      rw [this]
      exact k
  · cases p with
    | kn i => cases hc
    | new xs =>
      obtain ⟨h1, h2, h3⟩ := h
      refine sx_retD (ev_and (ev_op (ev_tag rfl) ev_str (rd_eq sh_n sh_n)) fun _ => ev_and (ev_callD (ea_cons (ev_body rfl) (ea_cons ev_int ea_nil)) ⟨octD xs, 5000, rfl, by decide, rfl⟩) fun _ => ev_op (ev_body rfl) (ev_tup (ds := ([] : List Int).map .int) ea_nil (by decide)) (rd_ne (shaped_T xs) rfl)) ?_
      have e3 : PyData.eqv (bodyD (.new xs)) (.tuple (([] : List Int).map .int)) = decide (xs = []) := eqv_octs xs []
      rw [show PyData.eqv (tagD (.new xs)) (.str strNew) = true from eqv_nn, oct_fits (by omega) h2, e3, decide_eq_false h1]
      exact k
theorem ps_get {ps : List Pc} {i : Nat} {d : PyData} (h : (ps.map pcD)[i]? = some d) : ∃ p, d = pcD p ∧ ps[i]? = some p ∧ p ∈ ps := by
  rw [List.getElem?_map] at h
  obtain ⟨k, hk, rfl⟩ := Option.map_eq_some_iff.mp h
  exact ⟨k, rfl, hk, List.mem_of_getElem? hk⟩
theorem cut_from {xs : List PyData} : cutD xs (some 1) none = xs.drop 1 := by
  unfold cutD
  have e1 : HT.sIx xs.length 0 (some 1) = min 1 xs.length := rfl
  have e2 : HT.sIx xs.length xs.length none = xs.length := rfl
  rw [e1, e2]
  cases xs with
  | nil => rfl
  | cons x xs =>
    rw [List.length_cons, Nat.min_eq_left (by omega)]
    show (xs).take _ = xs
    rw [List.take_of_length_le (by omega)]
/-- what a piece tells, as data -/
def fOwn (ks : List (List Int)) : PyData → PyData
  | .tuple [_, .int i] => .int ((ks.getD i.toNat []).length : Nat)
  | .tuple [_, .tuple xs] => .int (xs.length : Nat)
  | _ => .none
theorem fOwn_eq (ks : List (List Int)) (p : Pc) : fOwn ks (pcD p) = .int ((ownU ks p).length : Nat) := by
  cases p with
  | new xs =>
    show PyData.int ((xs.map PyData.int).length : Nat) = _
    rw [List.length_map]
    rfl
  | kn i => rfl
theorem ev_own' {ks : List (List Int)} {p : Pc} {i j l : Nat} (h0 : ρ[i]? = some (.d (ksD ks))) (h1 : ρ[j]? = some (.d (tagD p))) (h2 : ρ[l]? = some (.d (bodyD p))) (ho : okP ks p) :
    EvD (tIf (tTest (tOp (rEqD K) (tVar j) (tC (.str strKnown)))) (tOp (rIx K) (tVar i) (tVar l)) (tVar l)) ρ O (octD (ownU ks p)) := by
  refine ev_if ((et_test (ev_op (ev_var h1) ev_str (rd_eq (sh_tag p) sh_k))).is (eqv_tagK p)) (fun hc => ?_) fun hc => ?_
  · cases p with
    | new xs => cases hc
    | kn m =>
      have hm : m < ks.length := ho
      refine ev_op (ev_var h0) (ev_var h2) (ix_tupD (d := octD (ownU ks (.kn m))) (atD (j := m) rfl ?_))
      rw [List.getElem?_map, List.getElem?_eq_getElem hm]
      show some (octD ks[m]) = some (octD (ks.getD m []))
      rw [List.getD_eq_getElem?_getD, List.getElem?_eq_getElem hm]
      rfl
  · cases p with
    | kn i => cases hc
    | new xs => exact ev_var h2
theorem sum_own (ks : List (List Int)) (ps : List Pc) : ((ps.map pcD).map (fOwn ks)) = (ps.map fun p => ((ownU ks p).length : Int)).map .int := by
  rw [List.map_map, List.map_map]
  apply List.map_congr_left
  intro p _
  exact fOwn_eq ks p
theorem told_len (ks : List (List Int)) (ps : List Pc) : (ps.map fun p => ((ownU ks p).length : Int)).sum = ((toldU ks ps).length : Nat) := by
  induction ps with
  | nil => rfl
  | cons p ps ih =>
    rw [List.map_cons, List.sum_cons, ih]
    show _ = ((ownU ks p ++ toldU ks ps).length : Int)
    rw [List.length_append]
    omega
structure Fit (ks : List (List Int)) (ps : List Pc) : Prop where
  good : Good ks ps
  len : ps.length ≤ 5000
  told : (toldU ks ps).length ≤ 5000
abbrev R_fits_pieces : Pr := prD fun ds d => ∃ ks ps, ds = [ksD ks, psD ps] ∧ Fit ks ps ∧ d = .bool true
theorem b_fits_pieces {ks : List (List Int)} {ps : List Pc} (h : Fit ks ps) (k : P (.rt (.d (.bool true)) O)) : SX (t_fits_pieces K R_is_tuple_of R_fits_piece) [.d (ksD ks), .d (psD ps), .un, .un, .un, .un] O P := by
  have hl := h.len
  have e1 : isTupOf (psD ps) 0 5000 = true := by
    show (decide ((0 : Int) ≤ ((ps.map pcD).length : Int)) && decide (((ps.map pcD).length : Int) ≤ 5000)) = true
    rw [List.length_map, decide_eq_true (by omega), decide_eq_true (by omega)]
    rfl
  refine sx_seq (sx_if (b := false) ((et_or (a := false) (b := false) ((et_not (et_B (ev_callD (ea_cons (ev_var rfl) (ea_cons ev_int (ea_cons ev_int ea_nil))) ⟨psD ps, 0, 5000, rfl, rfl⟩))).is (by rw [e1]; rfl)) fun _ => (et_not (et_B (ev_cb (ea_cons ((ev_lcM (ei_tup (ev_var rfl)) (by rw [List.length_map]; omega) (fun _ => .bool true) fun i d hd => ?_).is (by rw [all_true])) ea_nil) rc_all))).is (by rw [all_id]; rfl)).is rfl) (fun hh => by cases hh) fun _ => sx_next ?_)
  · obtain ⟨q, rfl, hq, hm⟩ := ps_get hd
    exact ⟨_, _, eg_name, fun j hj => hj, ev_callD (ea_cons (ev_var rfl) (ea_cons (ev_var rfl) ea_nil)) ⟨ks, q, rfl, h.good.ok q hm, rfl⟩⟩
  have hany : ((zipD (ps.map pcD) ((ps.map pcD).drop 1)).map fun _ => PyData.bool false) = ((zipD (ps.map pcD) ((ps.map pcD).drop 1)).map fun _ => false).map .bool := by rw [List.map_map]; rfl
  have hany2 : ((zipD (ps.map pcD) ((ps.map pcD).drop 1)).map fun _ => false).any id = false := by rw [List.any_map]; simp
  refine sx_seq (sx_if (b := false) ((et_B (ev_cb (ea_cons ((ev_lcM (ei_zipT (ea_cons (ev_var rfl) (ea_cons ((ev_sl (lo := some 1) (hi := none) (ev_var rfl) (eo_some ev_int) eo_no rs_tup).is (by rw [cut_from])) ea_nil))) (by unfold zipD; rw [List.length_zipWith, List.length_map]; omega) (fun _ => .bool false) fun i d hd => ?_).is (by rw [hany])) ea_nil) rc_any)).is hany2) (fun hh => by cases hh) fun _ => sx_next ?_)
  · unfold zipD at hd
    rw [List.getElem?_zipWith, List.getElem?_drop] at hd
    cases hx : (ps.map pcD)[i]? with
    | none => rw [hx] at hd; cases hd
    | some u =>
      cases hy : (ps.map pcD)[1 + i]? with
      | none => rw [hx, hy] at hd; cases hd
      | some v =>
        rw [hx, hy] at hd
        cases hd
        obtain ⟨p, rfl, hp, _⟩ := ps_get hx
        obtain ⟨q, rfl, hq, _⟩ := ps_get hy
        refine ⟨_, _, eg_tup (egs_cons eg_name (egs_cons eg_name egs_nil)) rfl, fun j hj => by simpa using hj, (ev_chain (b := q.isNew) (ev_tag rfl) (ev_tag rfl) (rd_eq (sh_tag p) (sh_tag q)) fun _ => ⟨_, ev_str, by rw [← eqv_tagN]; exact rd_eq (sh_tag q) sh_n⟩).is ?_⟩
        rw [eqv_tags]
        have hA := h.good.adj i p q hp (by rw [Nat.add_comm]; exact hq)
        cases hpn : p.isNew <;> cases hqn : q.isNew
        · rfl
        · rfl
        · rfl
        · rw [hA hpn] at hqn
          cases hqn
  · refine sx_retD (ev_op ((ev_cb (ea_cons ((ev_lcM (ei_tup (ev_var rfl)) (by rw [List.length_map]; omega) (fOwn ks) fun i d hd => ?_).is (by rw [sum_own])) ea_nil) rc_sum).is (by rw [told_len])) ev_int rd_le) ?_
    · obtain ⟨q, rfl, hq, hm⟩ := ps_get hd
      rw [fOwn_eq, pcD_eq]
      exact ⟨_, _, eg_tup (egs_cons eg_name (egs_cons eg_name egs_nil)) rfl, fun j hj => by simpa using hj, len_oct (ownU ks q) (ev_own' (i := 0) (j := 4) (l := 5) (p := q) rfl rfl rfl (h.good.ok q hm))⟩
    · rw [decide_eq_true (by have := h.told; omega)]
      exact k
end
section
variable {K : PySem.W.Frag} {O : Own} {P : Out → Prop} {ρ : List E} {te : TE} {R : Pr} {XE : XK} {ta : TA} {Z : E → Own → Prop}
/-- a call that takes nothing of what is owned, its answer not told beforehand -/
theorem ev_callN {ds : List PyData} (h : EvA ta ρ O ds) (hr : R (ds.map E.d) [] (fun r O' => O' = [] ∧ Z r O)) : Ev (tCall (spX R) [] XE ta) ρ O Z := fun F G H σ w s Q q =>
  h F G H σ w s _ fun vs G1 H1 e1 w1 k1 => by
    rw [List.append_nil]
    refine ⟨O ++ F, G1, ds.map E.d, [], fun r O' => O' = [] ∧ Z r O, w1, .of k1, hr, fun v G' H' r O' z e w' k => ?_⟩
    obtain ⟨rfl, z⟩ := z
    exact q v G' H' r O z (e1.trans e) w' k
/-! ### steps and prices -/
theorem cut_at {octs : List Int} {a n : Nat} : cutD (octs.map .int) (some (a : Int)) (some ((a : Int) + (n : Nat))) = ((octs.drop a).take n).map .int := by
  unfold cutD
  rw [List.length_map]
  have e1 : HT.sIx octs.length 0 (some (a : Int)) = if (a : Int) < 0 then ((a : Int) + (octs.length : Int)).toNat else min (a : Int).toNat octs.length := rfl
  have e2 : HT.sIx octs.length octs.length (some ((a : Int) + (n : Nat))) = if (a : Int) + (n : Nat) < 0 then ((a : Int) + (n : Nat) + (octs.length : Int)).toNat else min ((a : Int) + (n : Nat)).toNat octs.length := rfl
  rw [e1, e2, if_neg (by omega), if_neg (by omega), ← List.map_drop, ← List.map_take]
  congr 1
  rw [show (a : Int).toNat = a by omega, show ((a : Int) + (n : Nat)).toNat = a + n by omega]
  rcases Nat.le_total a octs.length with h | h
  · rw [Nat.min_eq_left h]
    rcases Nat.le_total (a + n) octs.length with h2 | h2
    · rw [Nat.min_eq_left h2, Nat.add_sub_cancel_left]
    · rw [Nat.min_eq_right h2]
      rw [List.take_of_length_le (by rw [List.length_drop]; omega), List.take_of_length_le (by rw [List.length_drop]; omega)]
  · rw [Nat.min_eq_right h, List.drop_eq_nil_of_le (Nat.le_refl _), List.drop_eq_nil_of_le h]
    simp
abbrev R_steps_at : Pr := prD fun ds d => ∃ ks octs a f, ds = [ksD ks, octD octs, .int (a : Nat), .int f] ∧ ks.length ≤ 1000 ∧ d = .list ((stepsU ks octs f a).map rowD)
theorem b_steps_at {ks : List (List Int)} {octs : List Int} {a : Nat} {f : Int} (hl : ks.length ≤ 1000) (k : P (.rt (.d (.list ((stepsU ks octs f a).map rowD))) O)) :
    SX (t_steps_at K) [.d (ksD ks), .d (octD octs), .d (.int (a : Nat)), .d (.int f), .un, .un, .un] O P := by
  refine sx_seq (sx_asg (ev_own (EvA.ex (ea_cons (ev_tup (ds := [.int 1, .int ((a : Int) + 1), .none]) (ea_cons ev_int (ea_cons (ev_op (ev_var rfl) ev_int ad_int) (ea_cons ev_non ea_nil))) (by show 3 ≤ 100000; decide)) ea_nil) ⟨by show 1 ≤ 100000; decide, fun p => ?_⟩)))
  let st : Nat → List Row := fun i => (1, a + 1, none) :: ((ks.zipIdx.take i).filter fun q => hit octs a q.1).map fun q => (f, a + q.1.length, some q.2)
  refine sx_seq (sx_for (ei_enumT (ea_cons (ev_var rfl) ea_nil)) (fun i ρ1 O1 => ∃ e5 e6, ρ1 = [.d (ksD ks), .d (octD octs), .d (.int (a : Nat)), .d (.int f), .r p, e5, e6] ∧ O1 = (p, .lst (((st i).map rowD).map .d)) :: O) ⟨.un, .un, rfl, rfl⟩ ?_ ?_)
  · rintro i d ρ1 O1 hd ⟨e5, e6, rfl, rfl⟩
    rw [enumD_get, List.getElem?_map] at hd
    cases hq : ks[i]? with
    | none => rw [hq] at hd; cases hd
    | some q =>
      rw [hq] at hd
      cases hd
      have hzi : ks.zipIdx[i]? = some (q, i) := by rw [List.getElem?_zipIdx, hq]; simp
      have et : ks.zipIdx.take (i + 1) = ks.zipIdx.take i ++ [(q, i)] := by rw [List.take_add_one, hzi]; rfl
      have hi := (List.getElem?_eq_some_iff.mp hq).1
      have hst : (st i).length ≤ 1001 := by
        show (_ :: List.map _ _).length ≤ 1001
        rw [List.length_cons, List.length_map]
        have h1 := List.length_filter_le (fun q : List Int × Nat => hit octs a q.1) (ks.zipIdx.take i)
        rw [List.length_take, List.length_zipIdx] at h1
        omega
      refine ⟨_, _, eg_tup (egs_cons eg_name (egs_cons eg_name egs_nil)) rfl, ?_⟩
      refine sx_if ((et_test (ev_op (ev_sl (lo := some (a : Int)) (hi := some ((a : Int) + (q.length : Nat))) (ev_var rfl) (eo_some (ev_var rfl)) (eo_some (ev_op (ev_var rfl) (len_oct q (ev_var rfl)) ad_int)) rs_tup) (ev_var (d := octD q) rfl) (rd_eq (by rw [cut_at]; exact shaped_T _) (shaped_T q)))).is (by rw [cut_at, eqv_octs])) (fun hc => ?_) fun hc => sx_next ?_
      · refine sx_app (k := 0) (ev_ref rfl) rfl (ev_tup (ds := [.int f, .int ((a : Int) + (q.length : Nat)), .int (i : Nat)]) (ea_cons (ev_var rfl) (ea_cons (ev_op (ev_var rfl) (len_oct q (ev_var rfl)) ad_int) (ea_cons (ev_var rfl) ea_nil))) (by show 3 ≤ 100000; decide)) (by rw [List.length_map, List.length_map]; omega) ⟨_, _, rfl, ?_⟩
        have : st (i + 1) = st i ++ [(f, a + q.length, some i)] := by
          show _ :: _ = (_ :: _) ++ _
          rw [et, List.filter_append, List.filter_cons, if_pos (show hit octs a (q, i).1 = true from hc), List.map_append]
          rfl
        rw [this, List.map_append, List.map_append]
        rfl
      · refine ⟨_, _, rfl, ?_⟩
        have : st (i + 1) = st i := by
          show _ :: _ = _ :: _
          rw [et, List.filter_append, List.filter_cons, if_neg (show ¬ hit octs a (q, i).1 = true by rw [show hit octs a (q, i).1 = false from hc]; exact Bool.false_ne_true), List.filter_nil, List.append_nil]
        rw [this]
  · rintro ρ1 O1 ⟨e5, e6, rfl, rfl⟩
    rw [enumD_len, List.length_map]
    have : st ks.length = stepsU ks octs f a := by
      show _ :: _ = _ :: _
      rw [List.take_of_length_le (by rw [List.length_zipIdx]; exact Nat.le_refl _)]
    rw [this]
    exact sx_freeze (i := 4) rfl (sx_retD (ev_var rfl) k)
def fPrice (t : Tab) (n : Nat) : PyData → PyData
  | .tuple [.int p, .int th, o] => .tuple [.int (p + priceAt t (n - th.toNat)), .int th, o]
  | _ => .none
theorem fPrice_eq (t : Tab) (n : Nat) (r : Row) : fPrice t n (rowD r) = rowD (r.1 + priceAt t (n - r.2.1), r.2.1, r.2.2) := rfl
def fFst : PyData → PyData
  | .tuple (.int p :: _) => .int p
  | _ => .none
def pFst (m : Int) : PyData → Bool
  | .tuple (.int p :: _) => decide (p = m)
  | _ => false
def fTail : PyData → PyData
  | .tuple (_ :: xs) => .tuple xs
  | _ => .none
theorem rowD_get {rs : List Row} {i : Nat} {d : PyData} (h : (rs.map rowD)[i]? = some d) : ∃ r, d = rowD r ∧ rs[i]? = some r ∧ r ∈ rs := by
  rw [List.getElem?_map] at h
  obtain ⟨k, hk, rfl⟩ := Option.map_eq_some_iff.mp h
  exact ⟨k, rfl, hk, List.mem_of_getElem? hk⟩
theorem ints_fst (rs : List Row) : (rs.map rowD).map fFst = (rs.map (·.1)).map .int := by
  rw [List.map_map, List.map_map]
  rfl
theorem eqv_int (a b : Int) : PyData.eqv (.int a) (.int b) = decide (a = b) := by
  by_cases h : a = b <;> simp [PyData.eqv, h]
theorem first_row {rs : List Row} {m : Int} {r : Row} (h : rs.find? (fun r => decide (r.1 = m)) = some r) : (((rs.map rowD).filter (pFst m)).map fTail)[0]? = some (.tuple [.int (r.2.1 : Nat), optD r.2.2]) := by
  rw [List.filter_map, List.map_map]
  have e : (pFst m ∘ rowD) = fun r : Row => decide (r.1 = m) := rfl
  rw [e, List.getElem?_map, ← List.head?_eq_getElem?, List.head?_filter, h]
  rfl
abbrev R_prices_in : Pr := prD fun ds d => ∃ ks octs f, ds = [ksD ks, octD octs, .int f] ∧ ks.length ≤ 1000 ∧ Kn ks ∧ octs.length ≤ 5000 ∧ d = .list ((tabU ks octs f octs.length).reverse.map tabD)
theorem b_prices_in {ks : List (List Int)} {octs : List Int} {f : Int} (hl : ks.length ≤ 1000) (hk : Kn ks) (hn : octs.length ≤ 5000) (k : P (.rt (.d (.list ((tabU ks octs f octs.length).reverse.map tabD))) O)) :
    SX (t_prices_in K R_steps_at) [.d (ksD ks), .d (octD octs), .d (.int f), .un, .un, .un, .un, .un, .un, .un, .un] O P := by
  have el : ∀ {ρ : List E} {O : Own}, ρ[1]? = some (.d (octD octs)) → EvD (tCB (rLenU K) (tCons (tVar 1) tNil)) ρ O (.int (octs.length : Nat)) := fun h => len_oct _ (ev_var h)
  have neg1 : ∀ {ρ : List E} {O : Own}, EvD (tUn (rU fun i => .int (-i)) (tC (.int 1))) ρ O (.int (-1)) := ev_un ev_int (z := .int (-1)) fun F G H vx w a Q q => ⟨1, a.isInt, q _ G H (Ex.refl G) w (.int _)⟩
  refine sx_seq (sx_asg (ev_own (EvA.ex (ea_cons (ev_tup (ds := [.int 0, .none]) (ea_cons ev_int (ea_cons ev_non ea_nil)) (by show 2 ≤ 100000; decide)) ea_nil) ⟨by show 1 ≤ 100000; decide, fun p => ?_⟩)))
  refine sx_seq (sx_for (ds := rngC ((octs.length : Int) - 1) (-1) octs.length) (EvI.is (ei_rng3 (ea_cons (ev_op (el rfl) ev_int rd_sub) (ea_cons neg1 (ea_cons neg1 ea_nil))) (RgC.neg (i := (octs.length : Int) - 1) (j := -1) (by omega) (by omega) (by omega) (by omega))) (by congr 1; omega))
    (fun i ρ1 O1 => ∃ e4 e5 e6, ρ1 = [.d (ksD ks), .d (octD octs), .d (.int f), .r p, e4, e5, e6, .un, .un, .un, .un] ∧ O1 = (p, .lst (((tabU ks octs f i).map tabD).map .d)) :: O) ⟨.un, .un, .un, rfl, rfl⟩ ?_ ?_)
  · rintro i d ρ1 O1 hd ⟨e4, e5, e6, rfl, rfl⟩
    obtain ⟨hi, rfl⟩ := rngC_get hd
    have hat : (octs.length : Int) - 1 + (i : Nat) * (-1) = ((octs.length - 1 - i : Nat) : Int) := by omega
    rw [hat]
    have hstep := steps_end (f := f) hk (show octs.length - 1 - i < octs.length by omega)
    have hsl := steps_len (ks := ks) (octs := octs) (f := f) (at' := octs.length - 1 - i)
    refine ⟨_, _, eg_name, ?_⟩
    refine sx_seq (sx_asgD (d := .list ((pricedU ks octs f (tabU ks octs f i) (octs.length - 1 - i)).map rowD)) ((ev_lcM (ei_list (ev_callD (ea_cons (ev_var rfl) (ea_cons (ev_var rfl) (ea_cons (ev_var rfl) (ea_cons (ev_var rfl) ea_nil)))) ⟨ks, octs, octs.length - 1 - i, f, rfl, hl, rfl⟩)) (by rw [List.length_map]; omega) (fPrice (tabU ks octs f i) octs.length) fun j d hd => ?_).is ?_) ?_)
    · obtain ⟨r, rfl, hr, hm⟩ := rowD_get hd
      have he := hstep r hm
      have hix : octs.length - r.2.1 < (tabU ks octs f i).length := by rw [tabU_len]; omega
      have hget : ((((tabU ks octs f i).map tabD).map E.d))[octs.length - r.2.1]? = some (E.d (tabD ((tabU ks octs f i)[octs.length - r.2.1]))) := by
        rw [List.getElem?_map, List.getElem?_map, List.getElem?_eq_getElem hix]
        rfl
      have hpa : priceAt (tabU ks octs f i) (octs.length - r.2.1) = ((tabU ks octs f i)[octs.length - r.2.1]).1 := by
        unfold priceAt
        rw [List.getElem?_eq_getElem hix]
      rw [fPrice_eq, hpa]
      refine ⟨_, _, eg_tup (egs_cons eg_name (egs_cons eg_name (egs_cons eg_name egs_nil))) rfl, fun j hj => by simpa using hj, ev_tup (ds := [.int (r.1 + ((tabU ks octs f i)[octs.length - r.2.1]).1), .int (r.2.1 : Nat), optD r.2.2]) (ea_cons (ev_op (ev_var rfl) (ev_op (ev_ixO (k := 0) (j := octs.length - r.2.1) (ev_ref rfl) ((ev_op (el rfl) (ev_var rfl) rd_sub).is (by congr 1; omega)) rfl hget) ev_int (ix_tupD rfl)) ad_int) (ea_cons (ev_var rfl) (ea_cons (ev_var rfl) ea_nil))) (by show 3 ≤ 100000; decide)⟩
    · unfold pricedU
      rw [List.map_map, List.map_map]
      rfl
    have hpl : (pricedU ks octs f (tabU ks octs f i) (octs.length - 1 - i)).length ≤ 1001 := by unfold pricedU; rw [List.length_map]; omega
    have hne : pricedU ks octs f (tabU ks octs f i) (octs.length - 1 - i) ≠ [] := by unfold pricedU stepsU; simp
    generalize hrows : pricedU ks octs f (tabU ks octs f i) (octs.length - 1 - i) = rows at hpl hne
    have hne2 : rows.map (fun r : Row => r.1) ≠ [] := by simpa using hne
    refine sx_seq (sx_asgD (ev_cb (ea_cons ((ev_lcM (ei_list (ev_var rfl)) (by rw [List.length_map]; omega) fFst fun j d hd => ?_).is (by rw [ints_fst])) ea_nil) (rc_min (lowest_mem hne2) fun y hy => lowest_le y hy)) ?_)
    · obtain ⟨r, rfl, hr, hm⟩ := rowD_get hd
      exact ⟨_, _, eg_name, fun j hj => hj, ev_op (ev_var rfl) ev_int (ix_tupD rfl)⟩
    generalize hm : lowest (rows.map (fun r : Row => r.1)) = m
    obtain ⟨r0, hr0, hr0m⟩ := List.mem_map.mp (lowest_mem hne2)
    rw [hm] at hr0m
    cases hf : rows.find? (fun r : Row => decide (r.1 = m)) with
    | none =>
      rw [List.find?_eq_none] at hf
      exact absurd (decide_eq_true hr0m) (hf r0 hr0)
    | some r =>
      have hfr := first_row hf
      refine sx_app (k := 0) (ev_ref rfl) rfl (ev_tup (ds := [.int m, .tuple [.int (r.2.1 : Nat), optD r.2.2]]) (ea_cons (ev_var rfl) (ea_cons (ev_op (ev_lc (ei_list (ev_var (d := .list (rows.map rowD)) rfl)) (by rw [List.length_map]; omega) (pFst m) fTail fun j d hd => ?_) ev_int (ix_lstD (atD (j := 0) rfl hfr))) ea_nil)) (by show 2 ≤ 100000; decide)) (by rw [List.length_map, List.length_map, tabU_len]; omega) ⟨_, _, _, rfl, ?_⟩
      · obtain ⟨r, rfl, hr, hm⟩ := rowD_get hd
        exact ⟨_, _, eg_name, fun j hj => hj, (et_test (ev_op (ev_op (ev_var rfl) ev_int (ix_tupD (d := .int r.1) rfl)) (ev_var rfl) (rd_eq rfl rfl))).is (eqv_int _ _), fun _ => ev_sl (lo := some 1) (hi := none) (ev_var rfl) (eo_some ev_int) eo_no rs_tup⟩
      · have e : tabU ks octs f (i + 1) = tabU ks octs f i ++ [(m, some (r.2.1, r.2.2))] := by
          show tabU ks octs f i ++ [_] = _
          rw [hrows, hm]
          unfold firstOf
          rw [hf]
          rfl
        rw [e, List.map_append, List.map_append]
        rfl
  · rintro ρ1 O1 ⟨e4, e5, e6, rfl, rfl⟩
    rw [rngC_len]
    refine sx_freeze (i := 3) rfl (sx_retD (ev_revL (ev_var rfl)) ?_)
    rw [← List.map_reverse]
    exact k
end
section
variable {K : PySem.W.Frag} {O : Own} {P : Out → Prop} {ρ : List E} {te : TE} {R : Pr} {XE : XK} {ta : TA} {Z : E → Own → Prop}
/-! ### several names at once, of which some are of the def's own -/
def gNames : List Nat → TGs
  | [] => gNil
  | i :: is => gCons (gName i) (gNames is)
def setsE : List E → List Nat → List E → List E
  | ρ, i :: is, e :: es => setsE (ρ.set i e) is es
  | ρ, _, _ => ρ
theorem gNames_run {G : Hp} {Q : L2.St → Hp → Prop} {H : Hp} : ∀ {is : List Nat} {vs : List V} {es : List E} {σ : L2.St} {ρ : List E}, Sl G σ ρ → ErS G vs es → es.length = is.length → (∀ σ', Sl G σ' (setsE ρ is es) → Q σ' H) → gNames is vs σ H Q
  | [], _, _, σ, ρ, s, .nil, _, q => ⟨rfl, q σ s⟩
  | i :: is, _, _, σ, ρ, s, .cons h t, hl, q => ⟨_, _, rfl, gNames_run (s.set h i) t (by simpa using hl) q⟩
theorem sx_asgT {is : List Nat} {n : Nat} (hn : n = is.length) (hz : n ≤ 100000) (h : EvX ta ρ O (fun es O' => es.length = is.length ∧ P (.nx (setsE ρ is es) O'))) : SX (tAsg (tTup ta) (gTup K n (gNames is))) ρ O P := fun F G H σ D w s q =>
  h F G H σ w s _ fun vs G1 H1 es O1 z e1 w1 k1 => by
    obtain ⟨hl, z⟩ := z
    have hvl := k1.len
    refine ⟨sz_of (by omega), fun p hp => ⟨p, vs, rfl, SqT.of upd_same, by omega, ?_⟩⟩
    have w2 : Wd (O1 ++ F) G1 (upd H1 p (.tup vs)) := by
      refine ⟨fun b u q => ?_, fun q hq => ?_, w1.nd⟩
      · rw [upd_ne (ne_of_none q (w1.free hp))]
        exact w1.sub _ _ q
      · obtain ⟨u, h1, h2, h3⟩ := w1.own q hq
        exact ⟨u, by rw [upd_ne (ne_of_none h1 hp)]; exact h1, h2, h3⟩
    exact gNames_run (s.mono e1) k1 hl fun σ' s' => q _ z G1 _ σ' e1 w2 s'
/-! ### what must hold of the arguments -/
structure Args (ks : List (List Int)) (octs : List Int) (f : Int) : Prop where
  kn : Known ks
  len : octs.length ≤ 5000
  byt : ∀ o ∈ octs, 0 ≤ o ∧ o ≤ 255
  f0 : 0 ≤ f
  f1 : f ≤ 100
abbrev argsD (ks : List (List Int)) (octs : List Int) (f : Int) : List PyData := [ksD ks, octD octs, .int f]
theorem whole_f {f : Int} (h0 : 0 ≤ f) (h1 : f ≤ 100) : isWhole (.int f) 0 100 = true := by
  show (decide (0 ≤ f) && decide (f ≤ 100)) = true
  rw [decide_eq_true h0, decide_eq_true h1]
  rfl
abbrev R_need_all : Pr := prD fun ds d => ∃ ks octs f, ds = argsD ks octs f ∧ Args ks octs f ∧ d = .none
theorem b_need_all {ks : List (List Int)} {octs : List Int} {f : Int} (h : Args ks octs f) (k : P (.nx [.d (ksD ks), .d (octD octs), .d (.int f)] O)) : SX (t_need_all K R_need_known R_fits_octets R_is_whole) [.d (ksD ks), .d (octD octs), .d (.int f)] O P := by
  refine sx_seq (sx_dropD (ev_callD (ea_cons (ev_var rfl) ea_nil) ⟨ks, rfl, h.kn, rfl⟩) ?_)
  refine sx_seq (sx_if (b := false) ((et_not (et_B (ev_callD (ea_cons (ev_var rfl) (ea_cons ev_int ea_nil)) ⟨octD octs, 5000, rfl, by decide, rfl⟩))).is (by rw [oct_fits (by have := h.len; omega) h.byt]; rfl)) (fun hh => by cases hh) fun _ => sx_next ?_)
  exact sx_if (b := false) ((et_not (et_B (ev_callD (ea_cons (ev_var rfl) (ea_cons ev_int (ea_cons ev_int ea_nil))) ⟨.int f, 0, 100, rfl, rfl⟩))).is (by rw [whole_f h.f0 h.f1]; rfl)) (fun hh => by cases hh) fun _ => sx_next k
def fOwnL (ks : List (List Int)) : PyData → List PyData
  | .tuple [_, .int i] => (ks.getD i.toNat []).map .int
  | .tuple [_, .tuple xs] => xs
  | _ => []
theorem fOwnL_eq (ks : List (List Int)) (p : Pc) : fOwnL ks (pcD p) = (ownU ks p).map .int := by cases p <;> rfl
theorem told_flat (ks : List (List Int)) (ps : List Pc) : (((ps.map pcD).filter fun _ => true).flatMap fun d => ((fOwnL ks d).filter fun _ => true).map fun e => e) = (toldU ks ps).map .int := by
  rw [List.filter_eq_self.mpr (fun _ _ => rfl)]
  induction ps with
  | nil => rfl
  | cons p ps ih =>
    rw [List.map_cons, List.flatMap_cons, ih, fOwnL_eq, List.filter_eq_self.mpr (fun _ _ => rfl)]
    show (List.map (fun e => e) _) ++ _ = ((ownU ks p ++ toldU ks ps).map PyData.int)
    rw [List.map_append]
    congr 1
    simp
abbrev R_told_by : Pr := prD fun ds d => ∃ ks ps, ds = [ksD ks, psD ps] ∧ Known ks ∧ Fit ks ps ∧ d = octD (toldU ks ps)
theorem b_told_by {ks : List (List Int)} {ps : List Pc} (hk : Known ks) (h : Fit ks ps) (k : P (.rt (.d (octD (toldU ks ps))) O)) : SX (t_told_by K R_need_known R_fits_pieces) [.d (ksD ks), .d (psD ps), .un, .un, .un] O P := by
  refine sx_seq (sx_dropD (ev_callD (ea_cons (ev_var rfl) ea_nil) ⟨ks, rfl, hk, rfl⟩) ?_)
  refine sx_seq (sx_if (b := false) ((et_not (et_B (ev_callD (ea_cons (ev_var rfl) (ea_cons (ev_var rfl) ea_nil)) ⟨ks, ps, rfl, h, rfl⟩))).is rfl) (fun hh => by cases hh) fun _ => sx_next ?_)
  refine sx_retD (ev_cb (ea_cons ((ev_lc2 (ei_tup (ev_var rfl)) (fun _ => true) (fOwnL ks) (fun _ _ => true) (fun _ e => e) (by rw [told_flat, List.length_map]; have := h.told; omega) fun i d hd => ?_).is (by rw [told_flat])) ea_nil) tup_lst) k
  obtain ⟨q, rfl, hq, hm⟩ := ps_get hd
  rw [fOwnL_eq, pcD_eq]
  refine ⟨_, _, eg_tup (egs_cons eg_name (egs_cons eg_name egs_nil)) rfl, fun j hj => by
    have : j = 2 ∨ j = 3 := by simpa using hj
    rcases this with rfl | rfl <;> decide, et_yes, fun _ => ⟨ei_tup (ev_own' (i := 0) (j := 2) (l := 3) (p := q) rfl rfl rfl (h.good.ok q hm)), fun j e he => ⟨_, _, eg_name, fun j hj => hj, et_yes, fun _ => ev_var rfl⟩⟩⟩
def fCost (f : Int) : PyData → PyData
  | .tuple [_, .int _] => .int f
  | .tuple [_, .tuple xs] => .int (xs.length : Nat)
  | _ => .none
theorem fCost_eq (f : Int) (p : Pc) : fCost f (pcD p) = .int (priceP f p) := by
  cases p with
  | new xs =>
    show PyData.int ((xs.map PyData.int).length : Nat) = _
    rw [List.length_map]
    rfl
  | kn i => rfl
theorem cost_list (f : Int) (ps : List Pc) : (ps.map pcD).map (fCost f) = (ps.map (priceP f)).map .int := by
  rw [List.map_map, List.map_map]
  apply List.map_congr_left
  intro p _
  exact fCost_eq f p
/-- frame if word == 'known' else len(own) -/
theorem ev_cost {f : Int} {p : Pc} {i j l : Nat} (h0 : ρ[i]? = some (.d (.int f))) (h1 : ρ[j]? = some (.d (tagD p))) (h2 : ρ[l]? = some (.d (bodyD p))) :
    EvD (tIf (tTest (tOp (rEqD K) (tVar j) (tC (.str strKnown)))) (tVar i) (tCB (rLenU K) (tCons (tVar l) tNil))) ρ O (.int (priceP f p)) := by
  refine ev_if ((et_test (ev_op (ev_var h1) ev_str (rd_eq (sh_tag p) sh_k))).is (eqv_tagK p)) (fun hc => ?_) fun hc => ?_
  · cases p with
    | new xs => cases hc
    | kn m => exact ev_var h0
  · cases p with
    | kn i => cases hc
    | new xs => exact len_oct xs (ev_var h2)
abbrev R_price_of : Pr := prD fun ds d => ∃ ks ps f, ds = [ksD ks, psD ps, .int f] ∧ Known ks ∧ Fit ks ps ∧ 0 ≤ f ∧ f ≤ 100 ∧ d = .int (costU f ps)
theorem b_price_of {ks : List (List Int)} {ps : List Pc} {f : Int} (hk : Known ks) (h : Fit ks ps) (h0 : 0 ≤ f) (h1 : f ≤ 100) (k : P (.rt (.d (.int (costU f ps))) O)) : SX (t_price_of K R_need_known R_fits_pieces R_is_whole) [.d (ksD ks), .d (psD ps), .d (.int f), .un, .un] O P := by
  refine sx_seq (sx_dropD (ev_callD (ea_cons (ev_var rfl) ea_nil) ⟨ks, rfl, hk, rfl⟩) ?_)
  refine sx_seq (sx_if (b := false) ((et_not (et_B (ev_callD (ea_cons (ev_var rfl) (ea_cons (ev_var rfl) ea_nil)) ⟨ks, ps, rfl, h, rfl⟩))).is rfl) (fun hh => by cases hh) fun _ => sx_next ?_)
  refine sx_seq (sx_if (b := false) ((et_not (et_B (ev_callD (ea_cons (ev_var rfl) (ea_cons ev_int (ea_cons ev_int ea_nil))) ⟨.int f, 0, 100, rfl, rfl⟩))).is (by rw [whole_f h0 h1]; rfl)) (fun hh => by cases hh) fun _ => sx_next ?_)
  refine sx_retD (ev_cb (ea_cons ((ev_lcM (ei_tup (ev_var rfl)) (by rw [List.length_map]; have := h.len; omega) (fCost f) fun i d hd => ?_).is (by rw [cost_list])) ea_nil) rc_sum) k
  obtain ⟨q, rfl, hq, hm⟩ := ps_get hd
  rw [fCost_eq, pcD_eq]
  exact ⟨_, _, eg_tup (egs_cons eg_name (egs_cons eg_name egs_nil)) rfl, fun j hj => by simpa using hj, ev_cost (i := 2) (j := 3) (l := 4) rfl rfl rfl⟩
theorem tab_rev {ks : List (List Int)} {octs : List Int} {f : Int} {i : Nat} (h : i ≤ octs.length) : ((tabU ks octs f octs.length).reverse.map tabD)[i]? = (tabU ks octs f octs.length)[octs.length - i]?.map tabD := by
  rw [List.getElem?_map, List.getElem?_reverse (by rw [tabU_len]; omega), tabU_len]
  congr 2
abbrev R_least_price : Pr := prD fun ds d => ∃ ks octs f, ds = argsD ks octs f ∧ Args ks octs f ∧ d = .int (pr ks octs f octs.length)
theorem b_least_price {ks : List (List Int)} {octs : List Int} {f : Int} (h : Args ks octs f) (k : P (.rt (.d (.int (pr ks octs f octs.length))) O)) : SX (t_least_price K R_need_all R_prices_in) [.d (ksD ks), .d (octD octs), .d (.int f)] O P := by
  refine sx_seq (sx_dropD (ev_callD (ea_cons (ev_var rfl) (ea_cons (ev_var rfl) (ea_cons (ev_var rfl) ea_nil))) ⟨ks, octs, f, rfl, h, rfl⟩) ?_)
  have hlt : octs.length < (tabU ks octs f octs.length).length := by rw [tabU_len]; omega
  have e : ((tabU ks octs f octs.length)[octs.length]).1 = pr ks octs f octs.length := by
    unfold pr priceAt
    rw [List.getElem?_eq_getElem hlt]
  refine sx_retD ((ev_op (ev_op (ev_callD (ea_cons (ev_var rfl) (ea_cons (ev_var rfl) (ea_cons (ev_var rfl) ea_nil))) ⟨ks, octs, f, rfl, by have := h.kn.len; omega, h.kn.kn, h.len, rfl⟩) ev_int (ix_lstD (d := tabD ((tabU ks octs f octs.length)[octs.length])) (atD (j := 0) rfl (by rw [tab_rev (Nat.zero_le _), Nat.sub_zero, List.getElem?_eq_getElem hlt]; rfl)))) ev_int (ix_tupD rfl)).is (by rw [e])) k
abbrev R_best_pieces : Pr := fun es O Z => ∃ ks octs f, es = (argsD ks octs f).map E.d ∧ O = [] ∧ Args ks octs f ∧ octs.length ≤ 2000 ∧ ∀ ps, Fit ks ps → toldU ks ps = octs → costU f ps = pr ks octs f octs.length → Z (.d (psD ps)) []
theorem step_cases {ks : List (List Int)} {octs : List Int} {f : Int} {a : Nat} {r : Row} (h : r ∈ stepsU ks octs f a) : r = (1, a + 1, none) ∨ ∃ i k, r = (f, a + k.length, some i) ∧ ks[i]? = some k ∧ hit octs a k = true := by
  rcases List.mem_cons.mp h with rfl | h
  · exact .inl rfl
  · obtain ⟨p, hp, rfl⟩ := List.mem_map.mp h
    obtain ⟨h1, h2⟩ := List.mem_filter.mp hp
    refine .inr ⟨p.2, p.1, rfl, ?_, h2⟩
    have := List.mem_zipIdx_iff_getElem?.mp h1
    exact this
theorem ev_flush {i : Nat} {new : List Int} (h : ρ[i]? = some (.d (octD new))) : EvD (tIf (tTest (tOp (rNeD K) (tVar i) (tTup tNil))) (tLst (tCons (tTup (tCons (tC (.str strNew)) (tCons (tVar i) tNil))) tNil)) (tLst tNil)) ρ O (.list ((flush new).map pcD)) := by
  refine ev_if (b := !decide (new = [])) ((et_test (ev_op (ev_var h) (ev_tup (ds := ([] : List Int).map .int) ea_nil (by decide)) (rd_ne (shaped_T new) rfl))).is (by rw [eqv_octs])) (fun hc => ?_) fun hc => ?_
  · have hne : new ≠ [] := by simpa using hc
    refine (ev_lst (ds := [pcD (.new new)]) (ea_cons (ev_tup (ds := [.str strNew, octD new]) (ea_cons ev_str (ea_cons (ev_var h) ea_nil)) (by show 2 ≤ 100000; decide)) ea_nil) (by show 1 ≤ 100000; decide)).is ?_
    unfold flush
    rw [if_pos hne]
    rfl
  · have hne : new = [] := by simpa using hc
    refine (ev_lst (ds := []) ea_nil (by decide)).is ?_
    unfold flush
    rw [if_neg (fun h => h hne)]
    rfl
theorem b_best_pieces {ks : List (List Int)} {octs : List Int} {f : Int} (h : Args ks octs f) (hn : octs.length ≤ 2000) (k : ∀ ps, Fit ks ps → toldU ks ps = octs → costU f ps = pr ks octs f octs.length → P (.rt (.d (psD ps)) O)) :
    SX (t_best_pieces K R_need_all R_prices_in) [.d (ksD ks), .d (octD octs), .d (.int f), .un, .un, .un, .un, .un, .un] O P := by
  have el : ∀ {ρ : List E} {O : Own}, ρ[1]? = some (.d (octD octs)) → EvD (tCB (rLenU K) (tCons (tVar 1) tNil)) ρ O (.int (octs.length : Nat)) := fun h => len_oct _ (ev_var h)
  refine sx_seq (sx_dropD (ev_callD (ea_cons (ev_var rfl) (ea_cons (ev_var rfl) (ea_cons (ev_var rfl) ea_nil))) ⟨ks, octs, f, rfl, h, rfl⟩) ?_)
  refine sx_seq (sx_asgT (is := [3, 4, 5, 6]) rfl (by decide) (ex_cons ((ev_callD (ea_cons (ev_var rfl) (ea_cons (ev_var rfl) (ea_cons (ev_var rfl) ea_nil))) ⟨ks, octs, f, rfl, by have := h.kn.len; omega, h.kn.kn, h.len, rfl⟩).to (ex_cons (ev_int.to (ex_cons (ev_own (ex_nil ⟨Nat.zero_le _, fun p => ex_cons ((ev_tup (ds := []) ea_nil (by decide)).to (ex_nil ⟨rfl, ?_⟩))⟩))))))))
  refine sx_seq (sx_while (fun q ρ1 O1 => ∃ (a : Nat) (found : List Pc) (new : List Int) (e7 e8 : E), ρ1 = [.d (ksD ks), .d (octD octs), .d (.int f), .d (.list ((tabU ks octs f octs.length).reverse.map tabD)), .d (.int (a : Nat)), .r p, .d (octD new), e7, e8] ∧ O1 = (p, .lst ((found.map pcD).map .d)) :: O ∧ Best ks octs f a found new ∧ q = octs.length - a)
    _ ⟨0, [], [], .un, .un, rfl, rfl, Best.start, rfl⟩ ?_)
  rintro q ρ1 O1 ⟨a, found, new, e7, e8, rfl, rfl, hB, rfl⟩
  refine ⟨_, et_test (ev_op (ev_var rfl) (el rfl) rd_lt), fun hc => ?_, fun hc => ?_⟩
  · have ha : a < octs.length := by have := of_decide_eq_true hc; omega
    obtain ⟨r, hr, hfull, htab⟩ := tab_step (f := f) h.kn.kn ha
    have he := steps_end h.kn.kn ha r hr
    refine sx_seq (sx_asgG (ev_op (ev_op (ev_var rfl) (ev_var rfl) (ix_lstD (d := tabD (pr ks octs f (octs.length - a), some (r.2.1, r.2.2))) (atD (j := a) rfl (by rw [tab_rev (by omega), htab]; rfl)))) ev_int (ix_tupD (d := .tuple [.int (r.2.1 : Nat), optD r.2.2]) rfl)) (eg_tup (egs_cons eg_name (egs_cons eg_name egs_nil)) rfl) ?_)
    have hfl := hB.len
    have hnl := hB.nlen
    rcases step_cases hr with rfl | ⟨i, kk, rfl, hki, hh⟩
    · -- a new octet
      obtain ⟨o, ho⟩ : ∃ o, octs[a]? = some o := ⟨_, List.getElem?_eq_getElem ha⟩
      refine sx_seq (sx_if (b := true) ((et_test (ev_op (ev_var rfl) ev_non is_non)).is rfl) (fun _ => ?_) fun hh => by cases hh)
      refine sx_asgD (d := octD (new ++ [o])) ((ev_op (ev_var rfl) (ev_tup (ds := [.int o]) (ea_cons (ev_op (ev_var rfl) (ev_var rfl) (ix_tupD (d := .int o) (atD (j := a) rfl (by rw [List.getElem?_map, ho]; rfl)))) ea_nil) (by show 1 ≤ 100000; decide)) (ad_tup (by rw [List.length_map]; show _ + 1 ≤ 100000; omega))).is ?_) ?_
      · show _ = PyData.tuple ((new ++ [o]).map .int)
        rw [List.map_append]
        rfl
      · refine sx_asgD (ev_var rfl) ⟨octs.length - (a + 1), by omega, a + 1, found, new ++ [o], _, _, rfl, rfl, hB.new ho (h.byt o (List.mem_of_getElem? ho)) ?_, rfl⟩
        exact hfull
    · have hkne := h.kn.ne kk (List.mem_of_getElem? hki)
      refine sx_seq (sx_if (b := false) ((et_test (ev_op (ev_var rfl) ev_non is_non)).is rfl) (fun hh => by cases hh) fun _ => ?_)
      have hfn := flush_len new
      refine sx_seq (sx_ext (k := 0) (ds := (flush new ++ [Pc.kn i]).map pcD) rfl rfl ((ev_op (ev_flush rfl) (ev_lst (ds := [pcD (.kn i)]) (ea_cons (ev_tup (ds := [.str strKnown, .int (i : Nat)]) (ea_cons ev_str (ea_cons (ev_var rfl) ea_nil)) (by show 2 ≤ 100000; decide)) ea_nil) (by show 1 ≤ 100000; decide)) (ad_lst (by rw [List.length_map]; show _ + 1 ≤ 100000; omega))).is (by rw [List.map_append]; rfl)) (by rw [List.length_map, List.length_map, List.length_map, List.length_append]; show _ + (_ + 1) ≤ 100000; omega) ?_)
      refine sx_asgD (ev_tup (ds := []) ea_nil (by decide)) ?_
      refine sx_asgD (ev_var rfl) ⟨octs.length - (a + kk.length), by have he1 : a < a + kk.length := he.1; omega, a + kk.length, found ++ (flush new ++ [Pc.kn i]), [], _, _, rfl, ?_, hB.kn (by omega) hki hkne hh hfull, rfl⟩
      show (p, OO.lst ((found.map pcD).map E.d ++ ((flush new ++ [Pc.kn i]).map pcD).map E.d)) :: O = _
      rw [← List.map_append, ← List.map_append]
  · have ha : a = octs.length := by have := of_decide_eq_false hc; have := hB.le; omega
    subst ha
    have hfl := hB.len
    have hfn := flush_len new
    have hG := hB.flushed (by omega)
    have ht : toldU ks (found ++ flush new) = octs := by
      rw [toldU_append, flush_told, hB.told, List.take_length]
    have hcst : costU f (found ++ flush new) = pr ks octs f octs.length := by
      rw [costU_append, flush_cost]
      have := hB.cost
      rw [Nat.sub_self] at this
      have e0 : pr ks octs f 0 = 0 := rfl
      omega
    refine sx_freeze (i := 5) rfl (sx_retD (ev_cb (ea_cons ((ev_op (ev_var rfl) (ev_flush rfl) (ad_lst (by rw [List.length_map, List.length_map]; omega))).is (by rw [← List.map_append])) ea_nil) tup_lst) ?_)
    exact k _ ⟨hG, by rw [List.length_append]; omega, by rw [ht]; omega⟩ ht hcst
end
end K47
end Ly
namespace Ly
open PySem L2 Evl
local macro_rules | `(tactic| walk_at "rd") => `(tactic| first
  | assumption
  | exact ad_int | exact rd_sub | exact rd_lt | exact rd_le | exact rd_gt | exact rd_ge
  | exact is_non | exact is_notnon | exact is_bl | exact is_notbl
  | exact int_int | exact len_tup | exact len_lst | exact tup_lst | exact tup_tup | exact lst_tup | exact lst_lst | exact str_str | exact abs_int | exact rc_sum
  | (apply rd_mod; first | assumption | omega | decide)
  | (apply mu_int; first | (left; constructor <;> omega) | (right; constructor <;> omega))
  | (apply rd_fdiv; first | (constructor <;> omega))
  | exact rd_eq rfl rfl | exact rd_ne rfl rfl
  | exact ix_tupD rfl | exact ix_lstD rfl
  | exact rs_tup | exact rs_lst)
local macro_rules | `(tactic| walk_at "eo") => `(tactic| first
  | exact eo_no | (apply eo_some; walk_at "ev"))
local macro_rules | `(tactic| walk_at "ea") => `(tactic| first
  | exact ea_nil
  | (apply ea_cons; (focus walk_at "ev"); (focus walk_at "ea")))
local macro_rules | `(tactic| walk_at "ev") => `(tactic| first
  | assumption
  | exact ev_var rfl
  | exact ev_int | exact ev_bl | exact ev_str | exact ev_non
  | (apply ev_op; (focus walk_at "ev"); (focus walk_at "ev"); (focus walk_at "rd"))
  | (apply ev_sl; (focus walk_at "ev"); (focus walk_at "eo"); (focus walk_at "eo"); (focus walk_at "rd"))
  | (apply ev_isi; (focus walk_at "ev"); (focus (first | rfl | decide +kernel)))
  | (apply ev_cb; (focus walk_at "ea"); (focus walk_at "rd"))
  | (apply ev_tup; (focus walk_at "ea"); (focus (show _ ≤ _; simp; try omega)))
  | (apply ev_lst; (focus walk_at "ea"); (focus (show _ ≤ _; simp; try omega))))
namespace K47
open M46 M47
section
variable {K : PySem.W.Frag} {O : Own} {P : Out → Prop} {ρ : List E} {te tn tl td ty : TE} {R : Pr} {XE : XK} {ta : TA} {Z : E → Own → Prop} {c : Addr} {x y n : Int} {q : Addr × OO}
/-- a call that takes nothing of what is owned, and may hand back something of its own -/
theorem ev_callO {ds : List PyData} (h : EvA ta ρ O ds) (hr : R (ds.map E.d) [] (fun r O' => Z r (O' ++ O))) : Ev (tCall (spX R) [] XE ta) ρ O Z := fun F G H σ w s Q q =>
  h F G H σ w s _ fun vs G1 H1 e1 w1 k1 => by
    rw [List.append_nil]
    refine ⟨O ++ F, G1, ds.map E.d, [], fun r O' => Z r (O' ++ O), w1, .of k1, hr, fun v G' H' r O' z e w' k => ?_⟩
    rw [← List.append_assoc] at w'
    exact q v G' H' r _ z (e1.trans e) w' k
/-- d[k], d new; it is let go behind -/
theorem ev_dgetKX {k : Key} {d : PyData} (hd : Ev td ρ O (fun r O1 => ∃ p les, r = .r p ∧ O1 = (p, .dK les) :: O ∧ getF les k = some (.d d))) (ht : ∀ O, EvD ty ρ O (keyD k)) : EvD (tDGet td ty) ρ O d := fun F G H σ w s Q q =>
  hd F G H σ w s _ fun v G1 H1 r O1 z e1 w1 k1 => by
    obtain ⟨p, les, rfl, rfl, hg⟩ := z
    cases k1
    refine ht _ F G1 H1 σ w1 (s.mono e1) _ fun v1 G2 H2 e2 w2 k2 => ?_
    obtain ⟨o, h1, h2, _⟩ := w2.own _ List.mem_cons_self
    obtain ⟨kvs, rfl, h3⟩ := h2.dKE
    obtain ⟨u, g1, g2⟩ := h3.get hg
    rw [k2.isKey1]
    refine ⟨p, u, rfl, ?_, q u G2 H2 (e1.trans e2) ⟨w2.sub, fun q hq => w2.own q (List.mem_cons_of_mem _ hq), (List.nodup_cons.mp w2.nd).2⟩ g2.dat⟩
    rw [← g1]
    exact DGet.k h1
theorem ev_roll2 (hc : EvR te ρ c) (hn : EvD tn ρ [q, cup c x y] (.int n)) (h : Cup x y) (h0 : 0 < n) (h1 : n < 1073741824) (k : ∀ r x' y', 0 ≤ r → r < n → Cup x' y' → Z (.d (.int r)) [q, cup c x' y']) :
    Ev (tCall (spX R__law_roll) [] E0 (tCons te (tCons tn tNil))) ρ [q, cup c x y] Z :=
  ev_call1 (ex_cons (hc.to (ex_cons (hn.to (ex_nil ⟨1, _, rfl, c, x, y, n, rfl, rfl, h, h0, h1, fun r x' y' q0 q1 q2 => ⟨_, rfl, k r x' y' q0 q1 q2⟩⟩)))))
theorem ev_file2 (hc : EvR te ρ c) (hn : EvD tn ρ [q, cup c x y] (.int n)) (h : Cup x y) (h0 : 0 ≤ n) (h1 : n ≤ 1000) (k : ∀ ns x' y', Byts ns → (ns.length : Int) ≤ n → Cup x' y' → Z (.d (octD ns)) [q, cup c x' y']) :
    Ev (tCall (spX R__law_file) [] E0 (tCons te (tCons tn tNil))) ρ [q, cup c x y] Z :=
  ev_call1 (ex_cons (hc.to (ex_cons (hn.to (ex_nil ⟨1, _, rfl, c, x, y, n, rfl, rfl, h, h0, h1, fun ns x' y' q0 q1 q2 => ⟨_, rfl, k ns x' y' q0 q1 q2⟩⟩)))))
theorem ev_some2 (hc : EvR te ρ c) (hl : Ev tl ρ O (fun r O1 => ∃ ds x y, r = .d (.list ds) ∧ O1 = [q, cup c x y] ∧ Cup x y ∧ ds ≠ [] ∧ ds.length < 1073741824 ∧ ∀ d x' y', d ∈ ds → Cup x' y' → Z (.d d) [q, cup c x' y'])) :
    Ev (tCall (spX R__law_some) [] E0 (tCons te (tCons tl tNil))) ρ O Z :=
  ev_call1 (ex_cons (hc.to (ex_cons (hl.weak fun r O1 z => by
    obtain ⟨ds, x, y, rfl, rfl, h, h0, h1, k⟩ := z
    exact ex_nil ⟨1, _, rfl, c, x, y, ds, rfl, rfl, h, h0, h1, fun d x' y' q0 q1 => ⟨_, rfl, k d x' y' q0 q1⟩⟩))))
/-! ### the law's known chunks -/
structure Few (ks : List (List Int)) : Prop where
  len : ks.length ≤ 3
  ne : ∀ k ∈ ks, k ≠ []
  sz : ∀ k ∈ ks, k.length ≤ 4
  byt : ∀ k ∈ ks, ∀ o ∈ k, 0 ≤ o ∧ o ≤ 255
  nd : ks.Nodup
abbrev R__law_known : Pr := fun es O Z => ∃ c x y octs, es = [.r c, .d (octD octs)] ∧ O = [cup c x y] ∧ Cup x y ∧ octs.length ≤ 5000 ∧ Byts octs ∧ ∀ ks x' y', Few ks → Cup x' y' → Z (.d (ksD ks)) [cup c x' y']
theorem b_law_known {octs : List Int} (h : Cup x y) (hn : octs.length ≤ 5000) (hb : Byts octs) (k : ∀ ks x' y', Few ks → Cup x' y' → P (.rt (.d (ksD ks)) [cup c x' y'])) :
    SX (t__law_known K R__law_roll R__law_file R__law_some) [.r c, .d (octD octs), .un, .un, .un, .un] [cup c x y] P := by
  refine sx_seq (sx_asg (ev_dnewT fun pk => ?_))
  refine sx_seq (sx_forX (ex_rng1 (ex_cons (ev_roll2 (ev_ref rfl) ev_int h (by decide) (by decide) fun r x1 y1 r0 r1 h1' => ex_nil ⟨r, rfl, by omega, ?_⟩))))
  refine ⟨fun i ρ1 O1 => ∃ (les : List TE2) (ks : List (List Int)) (x y : Int) (e3 e4 e5 : E), ρ1 = [.r c, .d (octD octs), .r pk, e3, e4, e5] ∧ O1 = [(pk, .dT les), cup c x y] ∧ Cup x y ∧ les.map (·.1) = ks.map ck ∧ ks.length ≤ i ∧ (∀ k ∈ ks, k ≠ []) ∧ (∀ k ∈ ks, k.length ≤ 4) ∧ (∀ k ∈ ks, ∀ o ∈ k, 0 ≤ o ∧ o ≤ 255) ∧ ks.Nodup,
    ⟨[], [], x1, y1, .un, .un, .un, rfl, rfl, h1', rfl, Nat.le_refl _, fun k hk => (by cases hk), fun k hk => (by cases hk), fun k hk => (by cases hk), List.nodup_nil⟩, ?_, ?_⟩
  · rintro i d ρ1 O1 hd ⟨les, ks, x2, y2, e3, e4, e5, rfl, rfl, h2, hk, kl, k1, k2, k3, k4⟩
    have hi := rngD_get hd
    refine ⟨_, _, eg_name, ?_⟩
    refine sx_seq (sx_asg (ev_roll2 (ev_ref rfl) (ev_op (len_oct octs (ev_var rfl)) ev_int ad_int) h2 (by omega) (by omega) fun a x3 y3 a0 a1 h3 => ?_))
    have fin : ∀ (one : List Int) (x5 y5 : Int), one.length ≤ 4 → Byts one → Cup x5 y5 → SX (tDrop (tBM K "dict" rUpdT (tVar 2) (tCons (tIf (tTest (tOp (rNeD K) (tVar 5) (tTup tNil))) (tDispT (tVar 5) (tC (.int 1))) tDNewT) tNil))) [.r c, .d (octD octs), .r pk, .d d, .d (.int a), .d (octD one)] [(pk, .dT les), cup c x5 y5] (Turn (fun ρ1 O1 => ∃ (les : List TE2) (ks : List (List Int)) (x y : Int) (e3 e4 e5 : E), ρ1 = [.r c, .d (octD octs), .r pk, e3, e4, e5] ∧ O1 = [(pk, .dT les), cup c x y] ∧ Cup x y ∧ les.map (·.1) = ks.map ck ∧ ks.length ≤ i + 1 ∧ (∀ k ∈ ks, k ≠ []) ∧ (∀ k ∈ ks, k.length ≤ 4) ∧ (∀ k ∈ ks, ∀ o ∈ k, 0 ≤ o ∧ o ≤ 255) ∧ ks.Nodup) (Seq (tRet (tCB (rTupOf K) (tCons (tCB rListDT (tCons (tVar 2) tNil)) tNil))) P)) := by
      intro one x5 y5 ol ob h5
      have hll : les.length ≤ 5 := by
        have := congrArg List.length hk
        rw [List.length_map, List.length_map] at this
        omega
      refine sx_updT (i := 0) (ev_ref rfl) rfl (by omega) (ev_ifX (b := !decide (one = [])) ((et_test (ev_op (ev_var rfl) (ev_tup (ds := ([] : List Int).map .int) ea_nil (by decide)) (rd_ne (shaped_T one) rfl))).is (by rw [eqv_octs])) (fun hc => ev_dispT (k := ck one) (fun p => (ev_var (d := octD one) rfl).is (ck_oct one).symm) (fun p => ev_int) fun p => ⟨p, _, rfl, rfl, Nat.le_refl _, ?_⟩) fun hc => ev_dnewT fun p => ⟨p, _, rfl, rfl, Nat.zero_le _, ⟨les, ks, x5, y5, _, _, _, rfl, rfl, h5, hk, by omega, k1, k2, k3, k4⟩⟩)
      have hne : one ≠ [] := by simpa using hc
      have hkk := hasK_keys (kvs := les) (k := ck one)
      rw [hk, ck_mem] at hkk
      by_cases hin : one ∈ ks
      · refine ⟨putE les (ck one) (.d (.int 1)), ks, x5, y5, _, _, _, rfl, rfl, h5, ?_, by omega, k1, k2, k3, k4⟩
        rw [keys_put, if_pos (hkk.mpr hin), hk]
      · refine ⟨putE les (ck one) (.d (.int 1)), ks ++ [one], x5, y5, _, _, _, rfl, rfl, h5, ?_, by rw [List.length_append]; show _ + 1 ≤ _; omega, ?_, ?_, ?_, ?_⟩
        · rw [keys_put, if_neg (fun hz => hin (hkk.mp hz)), hk, List.map_append]
          rfl
        · intro z hz
          rcases List.mem_append.mp hz with hz | hz
          · exact k1 z hz
          · rw [List.mem_singleton.mp hz]
            exact hne
        · intro z hz
          rcases List.mem_append.mp hz with hz | hz
          · exact k2 z hz
          · rw [List.mem_singleton.mp hz]
            exact ol
        · intro z hz
          rcases List.mem_append.mp hz with hz | hz
          · exact k3 z hz
          · rw [List.mem_singleton.mp hz]
            exact ob.byt
        · rw [List.nodup_append]
          refine ⟨k4, List.nodup_cons.mpr ⟨by simp, List.nodup_nil⟩, fun u hu v hv => ?_⟩
          rw [List.mem_singleton.mp hv]
          exact fun e => hin (e ▸ hu)
    refine sx_seq (sx_asg (ev_some2 (ev_ref rfl) (ev_lstX (ex_cons (ev_slH (lo := some a) (ev_var rfl) (eo_some (ev_var rfl)) (ev_opX ((ev_op (ev_var rfl) ev_int ad_int).to ⟨_, rfl, ev_roll2 (ev_ref rfl) ev_int h3 (by decide) (by decide) fun r4 x4 y4 r40 r41 h4 => ⟨_, _, rfl, ad_int, _, octD (cutI octs (some a) (some (a + 1 + r4))), rfl, ?_, ex_cons (ev_file2 (ev_ref rfl) ev_int h4 (by decide) (by decide) fun f4 x5 y5 fb fl h5 => ex_nil ⟨[octD (cutI octs (some a) (some (a + 1 + r4))), octD f4], rfl, by show 2 ≤ 100000; decide, _, x5, y5, rfl, rfl, h5, List.cons_ne_nil _ _, by show 2 < 1073741824; decide, fun d' x6 y6 hm h6 => ?_⟩)⟩⟩)))))))
    · have := rs_tup (K := K) (xs := octs.map .int) (lo := some a) (hi := some (a + 1 + r4))
      rw [cut_I] at this
      exact this
    · rcases List.mem_cons.mp hm with rfl | hm
      · refine fin _ x6 y6 ?_ ⟨fun o ho => hb.byt o (cutI_mem ho)⟩ h6
        have hc := cutI_len octs (some a) (some (a + 1 + r4))
        have e1 : HT.sIx octs.length 0 (some a) = if a < 0 then (a + (octs.length : Int)).toNat else min a.toNat octs.length := rfl
        have e2 : HT.sIx octs.length octs.length (some (a + 1 + r4)) = if a + 1 + r4 < 0 then (a + 1 + r4 + (octs.length : Int)).toNat else min (a + 1 + r4).toNat octs.length := rfl
        rw [e1, e2, if_neg (by omega), if_neg (by omega)] at hc
        omega
      · rw [List.mem_singleton.mp hm]
        exact fin f4 x6 y6 (by omega) fb h6
  · rintro ρ1 O1 ⟨les, ks, x2, y2, e3, e4, e5, rfl, rfl, h2, hk, kl, k1, k2, k3, k4⟩
    rw [rngD_len] at kl
    refine sx_ret (ev_less ((ev_cb (ea_cons (ev_listDT (i := 0) (ev_ref rfl) rfl) ea_nil) tup_lst).to ⟨[(pk, .dT les)], [cup c x2 y2], rfl, ?_⟩))
    rw [keysD_ck hk]
    exact k ks x2 y2 ⟨by omega, k1, k2, k3, k4⟩ h2
/-! ### the law's steps -/
def stepD (r : Row) : PyData := .tuple [.int r.1, .int (r.2.1 : Nat)]
theorem zip_drop {α : Type} (p : List Int → Bool) (g : List Int → α) : ∀ (ks : List (List Int)) (m : Nat), ((ks.zipIdx m).filter fun q => p q.1).map (fun q => g q.1) = (ks.filter p).map g
  | [], _ => rfl
  | k :: ks, m => by
    rw [List.zipIdx_cons, List.filter_cons, List.filter_cons]
    by_cases h : p k = true
    · rw [if_pos h, if_pos h, List.map_cons, List.map_cons, zip_drop p g ks (m + 1)]
    · rw [if_neg h, if_neg h, zip_drop p g ks (m + 1)]
def pHit (octs : List Int) (a : Nat) : PyData → Bool
  | .tuple xs => PyData.eqv (.tuple ((((octs.drop a).take xs.length)).map .int)) (.tuple xs)
  | _ => false
def fStep (a : Nat) (f : Int) : PyData → PyData
  | .tuple xs => .tuple [.int f, .int ((a : Int) + (xs.length : Nat))]
  | _ => .none
theorem pHit_eq (octs : List Int) (a : Nat) (k : List Int) : pHit octs a (octD k) = hit octs a k := by
  show PyData.eqv (.tuple ((((octs.drop a).take (k.map PyData.int).length)).map .int)) (.tuple (k.map .int)) = _
  rw [List.length_map, eqv_octs]
  rfl
theorem steps_list (ks : List (List Int)) (octs : List Int) (a : Nat) (f : Int) : [PyData.tuple [.int 1, .int ((a : Int) + 1)]] ++ ((ks.map octD).filter (pHit octs a)).map (fStep a f) = (stepsU ks octs f a).map stepD := by
  have e : pHit octs a ∘ octD = hit octs a := by
    funext k
    exact pHit_eq octs a k
  rw [List.filter_map, List.map_map, e]
  show _ :: _ = stepD (1, a + 1, none) :: _
  rw [List.map_map]
  have := zip_drop (hit octs a) (fun k => fStep a f (octD k)) ks 0
  congr 1
  rw [show (fStep a f ∘ octD) = fun k => fStep a f (octD k) from rfl, ← this]
  apply List.map_congr_left
  intro p _
  show PyData.tuple [.int f, .int ((a : Int) + ((p.1.map PyData.int).length : Nat))] = .tuple [.int f, .int ((a + p.1.length : Nat) : Int)]
  rw [List.length_map]
  rfl
abbrev R__law_steps : Pr := prD fun ds d => ∃ ks octs a f, ds = [ksD ks, octD octs, .int (a : Nat), .int f] ∧ ks.length ≤ 1000 ∧ d = .list ((stepsU ks octs f a).map stepD)
theorem b_law_steps {ks : List (List Int)} {octs : List Int} {a : Nat} {f : Int} (hl : ks.length ≤ 1000) (k : P (.rt (.d (.list ((stepsU ks octs f a).map stepD))) O)) :
    SX (t__law_steps K) [.d (ksD ks), .d (octD octs), .d (.int (a : Nat)), .d (.int f), .un] O P := by
  have hfl : (((ks.map octD).filter (pHit octs a)).map (fStep a f)).length ≤ 1000 := by
    rw [List.length_map]
    have := List.length_filter_le (pHit octs a) (ks.map octD)
    rw [List.length_map] at this
    omega
  refine sx_retD ((ev_op (ev_lst (ds := [.tuple [.int 1, .int ((a : Int) + 1)]]) (ea_cons (ev_tup (ea_cons ev_int (ea_cons (ev_op (ev_var rfl) ev_int ad_int) ea_nil)) (by show 2 ≤ 100000; decide)) ea_nil) (by show 1 ≤ 100000; decide)) (ev_lc (ei_tup (ev_var rfl)) (by rw [List.length_map]; omega) (pHit octs a) (fStep a f) fun i d hd => ?_) (ad_lst (by show 1 + _ ≤ 100000; omega))).is (by rw [steps_list])) k
  obtain ⟨kk, rfl, hq, hm⟩ := ks_get hd
  refine ⟨_, _, eg_name, fun j hj => hj, (et_test (ev_op (ev_sl (lo := some (a : Int)) (hi := some ((a : Int) + (kk.length : Nat))) (ev_var rfl) (eo_some (ev_var rfl)) (eo_some (ev_op (ev_var rfl) (len_oct kk (ev_var rfl)) ad_int)) rs_tup) (ev_var (d := octD kk) rfl) (rd_eq (by rw [cut_at]; exact shaped_T _) (shaped_T kk)))).is (by rw [cut_at, eqv_octs, pHit_eq]; rfl), fun _ => (ev_tup (ds := [.int f, .int ((a : Int) + (kk.length : Nat))]) (ea_cons (ev_var rfl) (ea_cons (ev_op (ev_var rfl) (len_oct kk (ev_var rfl)) ad_int) ea_nil)) (by show 2 ≤ 100000; decide)).is ?_⟩
  show _ = PyData.tuple [.int f, .int ((a : Int) + ((kk.map PyData.int).length : Nat))]
  rw [List.length_map]
/-! ### the law's least prices -/
abbrev kI (i : Nat) : Key := .inl (i : Int)
abbrev R__law_least : Pr := fun es O Z => ∃ ks octs f, es = (argsD ks octs f).map E.d ∧ O = [] ∧ ks.length ≤ 1000 ∧ Kn ks ∧ octs.length ≤ 5000 ∧ ∀ p les, getF les (kI 0) = some (.d (.int (pr ks octs f octs.length))) → Z (.r p) [(p, .dK les)]
def fFull (ks : List (List Int)) (octs : List Int) (f : Int) : PyData → PyData
  | .tuple [.int p, .int t] => .int (p + pr ks octs f (octs.length - t.toNat))
  | _ => .none
theorem fFull_list (ks : List (List Int)) (octs : List Int) (f : Int) (rs : List Row) : (rs.map stepD).map (fFull ks octs f) = (rs.map (full ks octs f)).map .int := by
  rw [List.map_map, List.map_map]
  rfl
theorem b_law_least {ks : List (List Int)} {octs : List Int} {f : Int} (hl : ks.length ≤ 1000) (hk : Kn ks) (hn : octs.length ≤ 5000) (k : ∀ p les, getF les (kI 0) = some (.d (.int (pr ks octs f octs.length))) → P (.rt (.r p) ((p, .dK les) :: O))) :
    SX (t__law_least K R__law_steps) [.d (ksD ks), .d (octD octs), .d (.int f), .un, .un, .un, .un, .un] O P := by
  have el : ∀ {ρ : List E} {O : Own}, ρ[1]? = some (.d (octD octs)) → EvD (tCB (rLenU K) (tCons (tVar 1) tNil)) ρ O (.int (octs.length : Nat)) := fun h => len_oct _ (ev_var h)
  refine sx_seq (sx_asg (ev_dispK (k := kI octs.length) (fun p => el rfl) (fun p => ev_int) fun p => ?_))
  refine sx_seq (sx_for (ds := rngD 0 octs.length) (EvI.is (ei_rng1 (ea_cons (el rfl) ea_nil) (by omega)) (by congr 1)) (fun i ρ1 O1 => ∃ les e4 e5, ρ1 = [.d (ksD ks), .d (octD octs), .d (.int f), .r p, e4, e5, .un, .un] ∧ O1 = (p, .dK les) :: O ∧ les.length ≤ i + 1 ∧ ∀ j, j ≤ i → getF les (kI (octs.length - j)) = some (.d (.int (pr ks octs f j))))
    ⟨[(kI octs.length, .d (.int 0))], .un, .un, rfl, rfl, Nat.le_refl _, fun j hj => ?_⟩ ?_ ?_)
  · have : j = 0 := by omega
    subst this
    simp [getF]
    rfl
  · rintro i d ρ1 O1 hd ⟨les, e4, e5, rfl, rfl, hle, hg⟩
    obtain ⟨hi, rfl⟩ := rngD_get hd
    have ha : octs.length - 1 - i < octs.length := by omega
    have hst := steps_end (f := f) hk ha
    have hsl := steps_len (ks := ks) (octs := octs) (f := f) (at' := octs.length - 1 - i)
    refine ⟨_, _, eg_name, ?_⟩
    refine sx_seq (sx_asgD (d := .int ((octs.length - 1 - i : Nat) : Int)) ((ev_op (ev_op (el rfl) ev_int rd_sub) (ev_var rfl) rd_sub).is (by congr 1; omega)) ?_)
    have hps := pr_succ (f := f) hk hi
    have hne : ((stepsU ks octs f (octs.length - 1 - i)).map (full ks octs f)) ≠ [] := by unfold stepsU; simp
    refine sx_dputK (i := 0) (k := kI (octs.length - 1 - i)) (d := .int (pr ks octs f (i + 1))) ((ev_cb (ea_cons ((ev_lcM (ei_list (ev_callD (ea_cons (ev_var rfl) (ea_cons (ev_var rfl) (ea_cons (ev_var rfl) (ea_cons (ev_var rfl) ea_nil)))) ⟨ks, octs, octs.length - 1 - i, f, rfl, hl, rfl⟩)) (by rw [List.length_map]; omega) (fFull ks octs f) fun j d hd => ?_).is (by rw [fFull_list])) ea_nil) (rc_min (m := pr ks octs f (i + 1)) (by rw [hps]; exact lowest_mem hne) fun z hz => by rw [hps]; exact lowest_le z hz))) (ev_ref rfl) (ev_var rfl) rfl (by omega) ⟨_, _, _, rfl, rfl, ?_, ?_⟩
    · rw [List.getElem?_map] at hd
      obtain ⟨r, hr, rfl⟩ := Option.map_eq_some_iff.mp hd
      have he := hst r (List.mem_of_getElem? hr)
      have hj := hg (octs.length - r.2.1) (by omega)
      rw [show octs.length - (octs.length - r.2.1) = r.2.1 by omega] at hj
      exact ⟨_, _, eg_tup (egs_cons eg_name (egs_cons eg_name egs_nil)) rfl, fun j hj => by simpa using hj, ev_op (ev_var rfl) (ev_dgetK (i := 0) (k := kI r.2.1) (ev_ref rfl) (ev_var rfl) rfl hj) ad_int⟩
    · have := putF_len (kvs := les) (k := kI (octs.length - 1 - i)) (v := .d (.int (pr ks octs f (i + 1))))
      omega
    · intro j hj
      rcases Nat.lt_or_ge i j with h | h
      · have : j = i + 1 := by omega
        subst this
        rw [show octs.length - (i + 1) = octs.length - 1 - i by omega]
        exact getF_put_same
      · rw [getF_put_other (fun e => by
          have e2 : ((octs.length - 1 - i : Nat) : Int) = ((octs.length - j : Nat) : Int) := Sum.inl.inj e
          omega)]
        exact hg j h
  · rintro ρ1 O1 ⟨les, e4, e5, rfl, rfl, hle, hg⟩
    rw [rngD_len] at hg
    refine sx_ret ((ev_ref rfl : EvR _ _ p).to (k p les ?_))
    have := hg octs.length (Nat.le_refl _)
    rwa [Nat.sub_self] at this
/-! ### what is told, by the law -/
abbrev R__law_told : Pr := prD fun ds d => ∃ ks ps, ds = [ksD ks, psD ps] ∧ Fit ks ps ∧ d = octD (toldU ks ps)
theorem b_law_told {ks : List (List Int)} {ps : List Pc} (h : Fit ks ps) (k : P (.rt (.d (octD (toldU ks ps))) O)) : SX (t__law_told K) [.d (ksD ks), .d (psD ps), .un, .un, .un] O P := by
  refine sx_seq (sx_asgD (ev_tup (ds := []) ea_nil (by decide)) ?_)
  refine sx_seq (sx_for (ei_tup (ev_var rfl)) (fun i ρ1 O1 => ∃ e3 e4, ρ1 = [.d (ksD ks), .d (psD ps), .d (octD (toldU ks (ps.take i))), e3, e4] ∧ O1 = O) ⟨.un, .un, rfl, rfl⟩ ?_ ?_)
  · rintro i d ρ1 O1 hd ⟨e3, e4, rfl, rfl⟩
    obtain ⟨p, rfl, hp, hm⟩ := ps_get hd
    have et : toldU ks (ps.take (i + 1)) = toldU ks (ps.take i) ++ ownU ks p := by
      rw [List.take_add_one, hp, toldU_append]
      show _ ++ (ownU ks p ++ []) = _
      rw [List.append_nil]
    have hle : (toldU ks (ps.take i) ++ ownU ks p).length ≤ 5000 := by
      have e : toldU ks ps = toldU ks (ps.take (i + 1)) ++ toldU ks (ps.drop (i + 1)) := by rw [← toldU_append, List.take_append_drop]
      have := congrArg List.length e
      rw [List.length_append, et] at this
      have := h.told
      omega
    rw [List.length_append] at hle
    refine ⟨_, _, by rw [pcD_eq]; exact eg_tup (egs_cons eg_name (egs_cons eg_name egs_nil)) rfl, ?_⟩
    refine sx_asgD (d := octD (toldU ks (ps.take (i + 1)))) ((ev_op (ev_var rfl) (ev_own' (i := 0) (j := 3) (l := 4) (p := p) rfl rfl rfl (h.good.ok p hm)) (ad_tup (by rw [List.length_map, List.length_map]; omega))).is ?_) ⟨_, _, rfl, rfl⟩
    rw [et]
    show _ = PyData.tuple ((toldU ks (ps.take i) ++ ownU ks p).map .int)
    rw [List.map_append]
  · rintro ρ1 O1 ⟨e3, e4, rfl, rfl⟩
    rw [List.length_map, List.take_length]
    exact sx_retD (ev_var rfl) k
end
section
variable {K : PySem.W.Frag} {O : Own} {P : Out → Prop} {ρ : List E}
/-! ### all pieces of few octets -/
abbrev pathD (r : Path) : PyData := .tuple (r.map optD)
def lineD (p : Path × Nat) : PyData := .tuple [pathD p.1, .int (p.2 : Nat)]
theorem lay_path : ∀ r : Path, PyData.canLayAll0 (r.map optD) = true
  | [] => rfl
  | o :: r => by
    show (PyData.canLay0 (optD o) && PyData.canLayAll0 (r.map optD)) = true
    rw [lay_path r]
    cases o <;> rfl
theorem deep_path : ∀ r : Path, PyData.depthAll (r.map optD) = 0
  | [] => rfl
  | o :: r => by
    show max (PyData.depth (optD o)) (PyData.depthAll (r.map optD)) = 0
    rw [deep_path r]
    cases o <;> rfl
theorem lay_line : ∀ l : Line, PyData.canLayAll0 (l.map lineD) = true
  | [] => rfl
  | p :: l => by
    show (PyData.canLayAll0 [pathD p.1, .int (p.2 : Nat)] && PyData.canLayAll0 (l.map lineD)) = true
    rw [lay_line l]
    show ((PyData.canLayAll0 (p.1.map optD) && true) && true) = true
    rw [lay_path]
    rfl
theorem deep_line : ∀ l : Line, PyData.depthAll (l.map lineD) ≤ 2
  | [] => Nat.zero_le _
  | p :: l => by
    show max (PyData.depthAll [pathD p.1, .int (p.2 : Nat)] + 1) (PyData.depthAll (l.map lineD)) ≤ 2
    have h1 : PyData.depthAll [pathD p.1, .int (p.2 : Nat)] = 1 := by
      show max (PyData.depthAll (p.1.map optD) + 1) (max 0 0) = 1
      rw [deep_path]
      rfl
    have := deep_line l
    omega
theorem shaped_line (l : Line) : SeqAt.shaped (.list (l.map lineD)) = true := by
  show (PyData.canLayAll0 (l.map lineD) && decide (PyData.depthAll (l.map lineD) + 1 ≤ 64)) = true
  rw [lay_line, decide_eq_true (by have := deep_line l; omega)]
  rfl
theorem eqv_none (xs : List PyData) : PyData.eqv (.list xs) (.list []) = xs.isEmpty := by cases xs <;> rfl
structure Lens (octs : List Int) (line : Line) (found : List Path) : Prop where
  line : ∀ p ∈ line, p.1.length ≤ p.2
  found : ∀ r ∈ found, r.length ≤ octs.length
theorem Lens.next {ks : List (List Int)} {octs : List Int} {f : Int} {g : Nat} {line : Line} {found : List Path} (hk : Kn ks) (hG : Gen ks octs f g line found) (h : Lens octs line found) : Lens octs (longerU ks octs f line) (found ++ doneU octs line) := by
  refine ⟨fun p hp => ?_, fun r hr => ?_⟩
  · obtain ⟨q, hq, hp⟩ := List.mem_flatMap.mp hp
    have hq2 := (hG.row q hq).2.1
    by_cases hqn : q.2 = octs.length
    · rw [if_pos hqn] at hp
      cases hp
    · rw [if_neg hqn] at hp
      obtain ⟨r, hr, rfl⟩ := List.mem_map.mp hp
      have he := steps_end hk (show q.2 < octs.length by omega) r hr
      have := h.line q hq
      show (q.1 ++ [r.2.2]).length ≤ r.2.1
      rw [List.length_append]
      show _ + 1 ≤ _
      omega
  · rcases List.mem_append.mp hr with hr | hr
    · exact h.found r hr
    · obtain ⟨q, hq, rfl⟩ := List.mem_map.mp hr
      have hm := (List.mem_filter.mp hq).1
      have := h.line q hm
      have := (hG.row q hm).2.1
      omega
theorem zipIdx_range (ks : List (List Int)) : ks.zipIdx = (List.range ks.length).map fun i => (ks.getD i [], i) := by
  apply List.ext_getElem?
  intro i
  rw [List.getElem?_zipIdx, List.getElem?_map]
  rcases Nat.lt_or_ge i ks.length with h | h
  · rw [List.getElem?_eq_getElem h, List.getElem?_range h]
    simp [List.getD_eq_getElem?_getD, List.getElem?_eq_getElem h]
  · rw [List.getElem?_eq_none h, List.getElem?_eq_none (by rw [List.length_range]; exact h)]
    rfl
def pIx (ks : List (List Int)) (octs : List Int) (a : Nat) : PyData → Bool
  | .int z => hit octs a (ks.getD z.toNat [])
  | _ => false
def fIx (ks : List (List Int)) (row : Path) (a : Nat) : PyData → PyData
  | .int z => lineD (row ++ [some z.toNat], a + (ks.getD z.toNat []).length)
  | _ => .none
theorem hits_list (ks : List (List Int)) (octs : List Int) (f : Int) (row : Path) (a : Nat) :
    [lineD (row ++ [none], a + 1)] ++ ((rngD 0 ks.length).filter (pIx ks octs a)).map (fIx ks row a) = ((stepsU ks octs f a).map fun r => (row ++ [r.2.2], r.2.1)).map lineD := by
  unfold stepsU
  rw [zipIdx_range]
  unfold rngD
  rw [List.filter_map, List.filter_map, List.map_map, List.map_cons, List.map_cons, List.map_map, List.map_map, List.map_map]
  have e : (pIx ks octs a ∘ fun i : Nat => PyData.int (0 + (i : Nat))) = ((fun p : List Int × Nat => hit octs a p.1) ∘ fun i => (ks.getD i [], i)) := by
    funext i
    show hit octs a (ks.getD (0 + (i : Int)).toNat []) = _
    rw [show (0 + (i : Int)).toNat = i by omega]
    rfl
  rw [e]
  show _ :: _ = _ :: _
  congr 1
  apply List.map_congr_left
  intro i _
  show lineD (row ++ [some (0 + (i : Int)).toNat], a + (ks.getD (0 + (i : Int)).toNat []).length) = lineD (row ++ [some i], a + (ks.getD i []).length)
  rw [show (0 + (i : Int)).toNat = i by omega]
abbrev R__law_every : Pr := fun es O Z => ∃ ks octs f, es = ([ksD ks, octD octs] : List PyData).map E.d ∧ O = [] ∧ Kn ks ∧ ks.length ≤ 3 ∧ octs.length ≤ 8 ∧
  ∀ rows : List Path, rows.length ≤ 65536 → (∀ r ∈ rows, r.length ≤ 8) → (∀ r ∈ rows, pr ks octs f octs.length ≤ costR f r) → (∃ r ∈ rows, costR f r = pr ks octs f octs.length) → Z (.d (.list (rows.map pathD))) []
theorem line_get {l : Line} {i : Nat} {d : PyData} (h : (l.map lineD)[i]? = some d) : ∃ p, d = lineD p ∧ l[i]? = some p ∧ p ∈ l := by
  rw [List.getElem?_map] at h
  obtain ⟨k, hk, rfl⟩ := Option.map_eq_some_iff.mp h
  exact ⟨k, rfl, hk, List.mem_of_getElem? hk⟩
theorem b_law_every {ks : List (List Int)} {octs : List Int} {f : Int} (hk : Kn ks) (h3 : ks.length ≤ 3) (h8 : octs.length ≤ 8)
    (k : ∀ rows : List Path, rows.length ≤ 65536 → (∀ r ∈ rows, r.length ≤ 8) → (∀ r ∈ rows, pr ks octs f octs.length ≤ costR f r) → (∃ r ∈ rows, costR f r = pr ks octs f octs.length) → P (.rt (.d (.list (rows.map pathD))) O)) :
    SX (t__law_every K) [.d (ksD ks), .d (octD octs), .un, .un, .un, .un, .un, .un] O P := by
  have el : ∀ {ρ : List E} {O : Own}, ρ[1]? = some (.d (octD octs)) → EvD (tCB (rLenU K) (tCons (tVar 1) tNil)) ρ O (.int (octs.length : Nat)) := fun h => len_oct _ (ev_var h)
  refine sx_seq (sx_par (ex_cons ((ev_lst (ds := [lineD ([], 0)]) (ea_cons (ev_tup (ds := [.tuple [], .int 0]) (ea_cons (ev_tup ea_nil (by decide)) (ea_cons ev_int ea_nil)) (by show 2 ≤ 100000; decide)) ea_nil) (by show 1 ≤ 100000; decide)).to (ex_cons (ev_own (ex_nil ⟨Nat.zero_le _, fun pf => ex_nil ⟨_, _, rfl, ?_⟩⟩))))))
  refine sx_seq (sx_while (fun m ρ1 O1 => ∃ (g : Nat) (line : Line) (found : List Path) (e4 e5 e6 : E), ρ1 = [.d (ksD ks), .d (octD octs), .d (.list (line.map lineD)), .r pf, e4, e5, e6, .un] ∧ O1 = (pf, .lst ((found.map pathD).map .d)) :: O ∧ Gen ks octs f g line found ∧ Lens octs line found ∧ m = octs.length + 1 - g)
    _ ⟨0, [([], 0)], [], .un, .un, .un, rfl, rfl, Gen.start, ⟨fun p hp => (by rw [List.mem_singleton.mp hp]; exact Nat.zero_le _), fun r hr => (by cases hr)⟩, rfl⟩ ?_)
  rintro m ρ1 O1 ⟨g, line, found, e4, e5, e6, rfl, rfl, hG, hL, rfl⟩
  refine ⟨_, et_test (ev_op (ev_var rfl) (ev_lst (ds := []) ea_nil (by decide)) (rd_ne (shaped_line line) rfl)), fun hc => ?_, fun hc => ?_⟩
  · rw [eqv_none] at hc
    have hne : line ≠ [] := fun e => by rw [e] at hc; cases hc
    have hg := hG.short hne
    have hN := hG.next hk h3 h8 hne
    have hLN := hL.next hk hG
    have hfew := hN.few
    have hpow : 1 ≤ 4 ^ (8 - (g + 1)) := Nat.one_le_pow _ _ (by decide)
    have hlong : (longerU ks octs f line).length ≤ 65536 := by
      have := Nat.mul_le_mul_left (longerU ks octs f line).length hpow
      omega
    have hdone : (found ++ doneU octs line).length ≤ 65536 := by omega
    rw [List.length_append] at hdone
    have hline : line.length ≤ 65536 := by
      have h0 := hG.few
      have hp0 : 1 ≤ 4 ^ (8 - g) := Nat.one_le_pow _ _ (by decide)
      have := Nat.mul_le_mul_left line.length hp0
      omega
    refine sx_seq (sx_asgD (ev_lst (ds := []) ea_nil (by decide)) ?_)
    refine sx_seq (sx_for (ei_list (ev_var rfl)) (fun i ρ1 O1 => ∃ (e5 e6 : E), ρ1 = [.d (ksD ks), .d (octD octs), .d (.list (line.map lineD)), .r pf, .d (.list ((longerU ks octs f (line.take i)).map lineD)), e5, e6, .un] ∧ O1 = (pf, .lst (((found ++ doneU octs (line.take i)).map pathD).map .d)) :: O) ⟨_, _, rfl, by simp [doneU]⟩ ?_ ?_)
    · rintro i d ρ1 O1 hd ⟨e5, e6, rfl, rfl⟩
      obtain ⟨p, rfl, hp, hm⟩ := line_get hd
      have et : line.take (i + 1) = line.take i ++ [p] := by rw [List.take_add_one, hp]; rfl
      have e1 : longerU ks octs f (line.take (i + 1)) = longerU ks octs f (line.take i) ++ (if p.2 = octs.length then [] else (stepsU ks octs f p.2).map fun r => (p.1 ++ [r.2.2], r.2.1)) := by
        unfold longerU
        rw [et, List.flatMap_append]
        simp
      have e2 : doneU octs (line.take (i + 1)) = doneU octs (line.take i) ++ (if p.2 = octs.length then [p.1] else []) := by
        unfold doneU
        rw [et, List.filter_append, List.map_append, List.filter_cons]
        by_cases hpn : p.2 = octs.length <;> simp [hpn]
      have hl1 : (longerU ks octs f (line.take (i + 1))).length ≤ 65536 := by
        have e : longerU ks octs f line = longerU ks octs f (line.take (i + 1)) ++ longerU ks octs f (line.drop (i + 1)) := by
          unfold longerU
          rw [← List.flatMap_append, List.take_append_drop]
        have := congrArg List.length e
        rw [List.length_append] at this
        omega
      have hd1 : (doneU octs (line.take i)).length ≤ (line.take i).length := by
        unfold doneU
        rw [List.length_map]
        exact List.length_filter_le _ _
      rw [List.length_take] at hd1
      have hrl := hL.line p hm
      have hrow := hG.row p hm
      refine ⟨_, _, eg_tup (ds := [pathD p.1, .int (p.2 : Nat)]) (egs_cons eg_name (egs_cons eg_name egs_nil)) rfl, ?_⟩
      refine sx_if (b := decide (p.2 = octs.length)) ((et_test (ev_op (ev_var rfl) (el rfl) (rd_eq rfl rfl))).is (by rw [eqv_int]; exact decide_eq_decide.mpr (by omega))) (fun hc2 => ?_) fun hc2 => ?_
      · have hpn := of_decide_eq_true hc2
        rw [if_pos hpn] at e1 e2
        have hfl : found.length < 65536 := by
          have h0 := hG.few
          have hp0 : 1 ≤ 4 ^ (8 - g) := Nat.one_le_pow _ _ (by decide)
          have := Nat.mul_le_mul_left line.length hp0
          have := List.length_pos_iff.mpr hne
          omega
        refine sx_app (k := 0) (ev_ref rfl) rfl (ev_var (d := pathD p.1) rfl) (by rw [List.length_map, List.length_map, List.length_append]; have hfew0 := hG.few; have hp0 : 1 ≤ 4 ^ (8 - g) := Nat.one_le_pow _ _ (by decide); have := Nat.mul_le_mul_left line.length hp0; omega) ⟨.d (pathD p.1), .d (.int (p.2 : Nat)), ?_, ?_⟩
        · rw [e1, List.append_nil]
          rfl
        · rw [e2, ← List.append_assoc]
          show (pf, OO.lst (((found ++ doneU octs (line.take i)).map pathD).map E.d ++ ([p.1].map pathD).map E.d)) :: O = _
          rw [← List.map_append, ← List.map_append]
      · have hpn := of_decide_eq_false hc2
        rw [if_neg hpn] at e1 e2
        rw [List.append_nil] at e2
        have hstl := steps_len (ks := ks) (octs := octs) (f := f) (at' := p.2)
        have hln : (longerU ks octs f (line.take i)).length + (stepsU ks octs f p.2).length ≤ 65536 := by
          rw [e1, List.length_append, List.length_map] at hl1
          exact hl1
        have hst1 : 1 ≤ (stepsU ks octs f p.2).length := by unfold stepsU; simp
        refine sx_seq (sx_asgD (d := .list ((longerU ks octs f (line.take i)).map lineD ++ [lineD (p.1 ++ [none], p.2 + 1)])) ((ev_op (ev_var rfl) (ev_lst (ds := [lineD (p.1 ++ [none], p.2 + 1)]) (ea_cons ((ev_tup (ds := [.tuple (p.1.map optD ++ [.none]), .int ((p.2 : Nat) + 1)]) (ea_cons (ev_op (ev_var (d := pathD p.1) rfl) (ev_tup (ds := [.none]) (ea_cons ev_non ea_nil) (by show 1 ≤ 100000; decide)) (ad_tup (by rw [List.length_map]; show _ + 1 ≤ 100000; omega))) (ea_cons (ev_op (ev_var rfl) ev_int ad_int) ea_nil)) (by show 2 ≤ 100000; decide)).is ?_) ea_nil) (by show 1 ≤ 100000; decide)) (ad_lst (by rw [List.length_map]; show _ + 1 ≤ 100000; omega)))) ?_)
        · unfold lineD pathD
          rw [List.map_append]
          rfl
        have hfl : (((rngD 0 ks.length).filter (pIx ks octs p.2)).map (fIx ks p.1 p.2)).length ≤ 3 := by
          rw [List.length_map]
          have := List.length_filter_le (pIx ks octs p.2) (rngD 0 ks.length)
          rw [rngD_len] at this
          omega
        refine sx_asgD (d := .list ((longerU ks octs f (line.take (i + 1))).map lineD)) ((ev_op (ev_var rfl) (ev_lc (EvI.is (ei_rng1 (n := (ks.length : Nat)) (ea_cons ((ev_cb (ea_cons (ev_var (d := ksD ks) rfl) ea_nil) len_tup).is (by rw [List.length_map])) ea_nil) (by omega)) (ds' := rngD 0 ks.length) (by congr 1)) (by rw [rngD_len]; omega) (pIx ks octs p.2) (fIx ks p.1 p.2) fun j d hd => ?_) (ad_lst (by rw [List.length_append, List.length_map]; show _ + 1 + _ ≤ 100000; omega))).is ?_) ⟨_, _, rfl, by rw [e2]⟩
        · obtain ⟨hj, rfl⟩ := rngD_get hd
          have hkj : ks.getD j [] = ks[j] := by rw [List.getD_eq_getElem?_getD, List.getElem?_eq_getElem hj]; rfl
          have hix : ∀ {ρ : List E} {O : Own}, ρ[0]? = some (.d (ksD ks)) → ρ[7]? = some (.d (.int (0 + (j : Nat)))) → EvD (tOp (rIx K) (tVar 0) (tVar 7)) ρ O (octD (ks.getD j [])) := fun h0 h7 => ev_op (ev_var h0) (ev_var h7) (ix_tupD (d := octD (ks.getD j [])) (atD (j := j) (by omega) (by rw [List.getElem?_map, List.getElem?_eq_getElem hj, hkj]; rfl)))
          have hjz : (0 + (j : Int)).toNat = j := by omega
          refine ⟨_, _, eg_name, fun j hj => hj, (et_test (ev_op (ev_sl (lo := some (p.2 : Int)) (hi := some ((p.2 : Int) + ((ks.getD j []).length : Nat))) (ev_var rfl) (eo_some (ev_var rfl)) (eo_some (ev_op (ev_var rfl) (len_oct _ (hix rfl rfl)) ad_int)) rs_tup) (hix rfl rfl) (rd_eq (by rw [cut_at]; exact shaped_T _) (shaped_T _)))).is ?_, fun _ => (ev_tup (ds := [.tuple (p.1.map optD ++ [.int (0 + (j : Nat))]), .int ((p.2 : Int) + ((ks.getD j []).length : Nat))]) (ea_cons (ev_op (ev_var (d := pathD p.1) rfl) (ev_tup (ds := [.int (0 + (j : Nat))]) (ea_cons (ev_var rfl) ea_nil) (by show 1 ≤ 100000; decide)) (ad_tup (by rw [List.length_map]; show _ + 1 ≤ 100000; omega))) (ea_cons (ev_op (ev_var rfl) (len_oct _ (hix rfl rfl)) ad_int) ea_nil)) (by show 2 ≤ 100000; decide)).is ?_⟩
          · rw [cut_at, eqv_octs]
            show _ = hit octs p.2 (ks.getD (0 + (j : Int)).toNat [])
            rw [hjz]
            rfl
          · show _ = lineD (p.1 ++ [some (0 + (j : Int)).toNat], p.2 + (ks.getD (0 + (j : Int)).toNat []).length)
            rw [hjz]
            unfold lineD pathD
            rw [List.map_append]
            show PyData.tuple [PyData.tuple (_ ++ [PyData.int (0 + (j : Int))]), _] = PyData.tuple [PyData.tuple (_ ++ [PyData.int (j : Int)]), _]
            rw [Int.zero_add]
            rfl
        · rw [e1, List.map_append, ← hits_list ks octs f p.1 p.2, List.append_assoc]
    · rintro ρ1 O1 ⟨e5, e6, rfl, rfl⟩
      rw [List.length_map, List.take_length]
      exact sx_asgD (ev_var rfl) ⟨octs.length + 1 - (g + 1), by omega, g + 1, longerU ks octs f line, found ++ doneU octs line, _, _, _, rfl, rfl, hN, hLN, rfl⟩
  · rw [eqv_none] at hc
    have hnil : line = [] := by
      cases line with
      | nil => rfl
      | cons a b => cases hc
    subst hnil
    have hfew := hG.few
    refine sx_freeze (i := 3) rfl (sx_retD (ev_var rfl) (k found (by simp at hfew; omega) (fun r hr => by have := hL.found r hr; omega) hG.low ?_))
    rcases hG.one with h | ⟨p, hp, _⟩
    · exact h
    · cases hp
end
end K47
end Ly
namespace Ly
open PySem L2 Evl
local macro_rules | `(tactic| walk_at "rd") => `(tactic| first
  | assumption
  | exact ad_int | exact rd_sub | exact rd_lt | exact rd_le | exact rd_gt | exact rd_ge
  | exact is_non | exact is_notnon | exact is_bl | exact is_notbl
  | exact int_int | exact len_tup | exact len_lst | exact tup_lst | exact tup_tup | exact lst_tup | exact lst_lst | exact str_str | exact abs_int | exact rc_sum
  | (apply rd_mod; first | assumption | omega | decide)
  | (apply mu_int; first | (left; constructor <;> omega) | (right; constructor <;> omega))
  | (apply rd_fdiv; first | (constructor <;> omega))
  | exact rd_eq rfl rfl | exact rd_ne rfl rfl
  | exact ix_tupD rfl | exact ix_lstD rfl
  | exact rs_tup | exact rs_lst)
local macro_rules | `(tactic| walk_at "eo") => `(tactic| first
  | exact eo_no | (apply eo_some; walk_at "ev"))
local macro_rules | `(tactic| walk_at "ea") => `(tactic| first
  | exact ea_nil
  | (apply ea_cons; (focus walk_at "ev"); (focus walk_at "ea")))
local macro_rules | `(tactic| walk_at "ev") => `(tactic| first
  | assumption
  | exact ev_var rfl
  | exact ev_int | exact ev_bl | exact ev_str | exact ev_non
  | (apply ev_op; (focus walk_at "ev"); (focus walk_at "ev"); (focus walk_at "rd"))
  | (apply ev_sl; (focus walk_at "ev"); (focus walk_at "eo"); (focus walk_at "eo"); (focus walk_at "rd"))
  | (apply ev_isi; (focus walk_at "ev"); (focus (first | rfl | decide +kernel)))
  | (apply ev_cb; (focus walk_at "ea"); (focus walk_at "rd"))
  | (apply ev_tup; (focus walk_at "ea"); (focus (show _ ≤ _; simp; try omega)))
  | (apply ev_lst; (focus walk_at "ea"); (focus (show _ ≤ _; simp; try omega))))
namespace K47
open M46 M47
section
variable {K : PySem.W.Frag} {O : Own} {P : Out → Prop} {ρ : List E} {te tn tl td ty to' : TE} {R : Pr} {XE : XK} {ta : TA} {Z : E → Own → Prop} {c : Addr} {x y n : Int}
theorem ev_known {octs : List Int} (hc : EvR te ρ c) (ho : EvD to' ρ [cup c x y] (octD octs)) (h : Cup x y) (hn : octs.length ≤ 5000) (hb : Byts octs) (k : ∀ ks x' y', Few ks → Cup x' y' → Z (.d (ksD ks)) [cup c x' y']) :
    Ev (tCall (spX R__law_known) [] E0 (tCons te (tCons to' tNil))) ρ [cup c x y] Z :=
  ev_call1 (ex_cons (hc.to (ex_cons (ho.to (ex_nil ⟨0, _, rfl, c, x, y, octs, rfl, rfl, h, hn, hb, fun ks x' y' q0 q1 => ⟨_, rfl, k ks x' y' q0 q1⟩⟩)))))
theorem Few.known {ks : List (List Int)} (h : Few ks) : Known ks := ⟨by have := h.len; omega, h.ne, fun k hk => by have := h.sz k hk; omega, h.byt, h.nd⟩
theorem pl_three (u v : Int) {os : List Int} (h : os.length ≤ 100000) : plD 3 (.tuple [.int u, octD os, .int v]) = true := by
  have h1 := pl_oct 1 (ns := os) h
  have h2 : plA 2 [.int u, octD os, .int v] = true := by
    unfold plA
    unfold plA
    unfold plA
    unfold plA
    rw [h1]
    unfold plD
    rfl
  unfold plD
  rw [h2]
  rfl
def fRow (f : Int) : PyData → PyData
  | .none => .int 1
  | _ => .int f
theorem row_cost (f : Int) (r : Path) : (r.map optD).map (fRow f) = (r.map fun o => if o = none then (1 : Int) else f).map .int := by
  rw [List.map_map, List.map_map]
  apply List.map_congr_left
  intro o _
  cases o <;> rfl
theorem cut_upto {octs : List Int} (m : Nat) : cutD (octs.map .int) none (some (m : Int)) = (octs.take m).map .int := by
  unfold cutD
  rw [List.length_map]
  have e1 : HT.sIx octs.length 0 none = 0 := rfl
  have e2 : HT.sIx octs.length octs.length (some (m : Int)) = if (m : Int) < 0 then ((m : Int) + (octs.length : Int)).toNat else min (m : Int).toNat octs.length := rfl
  rw [e1, e2, if_neg (by omega), List.drop_zero, Nat.sub_zero, Int.toNat_natCast, ← List.map_take]
  congr 1
  rcases Nat.le_total m octs.length with h | h
  · rw [Nat.min_eq_left h]
  · rw [Nat.min_eq_right h, List.take_of_length_le (Nat.le_refl _), List.take_of_length_le h]
theorem ints_inj : ∀ {a b : List Int}, a.map PyData.int = b.map PyData.int → a = b
  | [], [], _ => rfl
  | [], _ :: _, h => by cases h
  | _ :: _, [], h => by cases h
  | x :: a, y :: b, h => by
    rw [List.map_cons, List.map_cons] at h
    obtain ⟨h1, h2⟩ := List.cons_eq_cons.mp h
    rw [PyData.int.inj h1, ints_inj h2]
def t_right1 (K : PySem.W.Frag) (R__law_roll : Pr) (R__law_some : Pr) (R__law_octets : Pr) (R__law_known : Pr) (R__law_least : Pr) (R_best_pieces : Pr) (R_price_of : Pr) (R_told_by : Pr) (R_least_price : Pr) (R__law_same : Pr) (R__law_told : Pr) (R__law_every : Pr) : TS :=
  (tSeq (tAsg (tCall (spX R__law_known) [] E0 (tCons (tVar 0) (tCons (tVar 2) tNil))) (gName 4))
  (tSeq (tAsg (tDGet (tCall (spX R__law_least) [] E0 (tCons (tVar 4) (tCons (tVar 2) (tCons (tVar 3) tNil)))) (tC (.int 0))) (gName 5))
  (tSeq (tAsg (tCall (spX R_best_pieces) [] E0 (tCons (tVar 4) (tCons (tVar 2) (tCons (tVar 3) tNil)))) (gName 6))
  (tSeq (tIfS (tNot (tB (tCall (spX R__law_same) [] E0 (tCons (tTup (tCons (tCall (spX R_least_price) [] E0 (tCons (tVar 4) (tCons (tVar 2) (tCons (tVar 3) tNil)))) (tCons (tCall (spX R_told_by) [] E0 (tCons (tVar 4) (tCons (tVar 6) tNil))) (tCons (tCall (spX R_price_of) [] E0 (tCons (tVar 4) (tCons (tVar 6) (tCons (tVar 3) tNil)))) tNil)))) (tCons (tTup (tCons (tVar 5) (tCons (tVar 2) (tCons (tVar 5) tNil)))) tNil))))) (tRet (tC (.bl false))) tNext)
  (tSeq (tIfS (tOr (tTest (tOp (rNeD K) (tCall (spX R__law_told) [] E0 (tCons (tVar 4) (tCons (tVar 6) tNil))) (tVar 2))) (tTest (tOp (rNeD K) (tCB (rSum K) (tCons (tLc (iTup K (tVar 6)) (gTup K 2 (gCons (gName 10) (gCons (gName 11) gNil))) tYes (tIf (tTest (tOp (rEqD K) (tVar 10) (tC (.str (PySem.Str.ofString "known"))))) (tVar 3) (tCB (rLenU K) (tCons (tVar 11) tNil))) [10, 11]) tNil)) (tVar 5)))) (tRet (tC (.bl false))) tNext)
  (tSeq (tIfS (tOr (tTest (tOp (rNeD K) (tLc (iRng2 (tCons (tC (.int 1)) (tCons (tCB (rLenU K) (tCons (tVar 6) tNil)) tNil))) (gName 12) (tAnd (tTest (tOp (rEqD K) (tOp (rIx K) (tOp (rIx K) (tVar 6) (tOp (rI0 fun i j => .int (i - j)) (tVar 12) (tC (.int 1)))) (tC (.int 0))) (tC (.str (PySem.Str.ofString "new"))))) (tTest (tOp (rEqD K) (tOp (rIx K) (tOp (rIx K) (tVar 6) (tVar 12)) (tC (.int 0))) (tC (.str (PySem.Str.ofString "new")))))) (tVar 12) [12]) (tLst tNil))) (tTest (tOp (rI0 fun i j => .bl (decide (j < i))) (tVar 5) (tCB (rLenU K) (tCons (tVar 2) tNil))))) (tRet (tC (.bl false))) tNext)
  (tSeq (tAsg (tOp (rAddU K) (tVar 4) (tIf (tAnd (tTest (tOp (rNeD K) (tVar 2) (tTup tNil))) (tTest (tOp (rNotInU K) (tSl (rSlU K) (tVar 2) tNoPart (tPart (tC (.int 7)))) (tVar 4)))) (tTup (tCons (tSl (rSlU K) (tVar 2) tNoPart (tPart (tC (.int 7)))) tNil)) (tTup tNil))) (gName 7))
  (tSeq (tIfS (tTest (tOp (rI0 fun i j => .bl (decide (j < i))) (tCall (spX R_least_price) [] E0 (tCons (tVar 7) (tCons (tVar 2) (tCons (tVar 3) tNil)))) (tVar 5))) (tRet (tC (.bl false))) tNext)
  (tSeq (tAsg (tSl (rSlU K) (tVar 2) tNoPart (tPart (tC (.int 8)))) (gName 8))
  (tSeq (tAsg (tLc (iList K (tCall (spX R__law_every) [] E0 (tCons (tVar 4) (tCons (tVar 8) tNil)))) (gName 13) tYes (tCB (rSum K) (tCons (tLc (iTup K (tVar 13)) (gName 11) tYes (tIf (tTest (tOp rIsU (tVar 11) (tC .non))) (tC (.int 1)) (tVar 3)) [11]) tNil)) [13]) (gName 9))
  (tRet (tCall (spX R__law_same) [] E0 (tCons (tCall (spX R_least_price) [] E0 (tCons (tVar 4) (tCons (tVar 8) (tCons (tVar 3) tNil)))) (tCons (tCB (rMin K) (tCons (tVar 9) tNil)) tNil))))))))))))))
abbrev R__law_right : Pr := fun es O Z => ∃ c x y n, es = [.r c, .d (.int n)] ∧ O = [cup c x y] ∧ Cup x y ∧ 0 ≤ n ∧ n ≤ 20 ∧ ∀ x' y', Cup x' y' → Z (.d (.bool true)) [cup c x' y']
theorem b_right (h : Cup x y) (h0 : 0 ≤ n) (h1 : n ≤ 20) (k : ∀ x' y', Cup x' y' → P (.rt (.d (.bool true)) [cup c x' y'])) :
    SX (t__law_right K R__law_roll R__law_some R__law_octets R__law_known R__law_least R_best_pieces R_price_of R_told_by R_least_price (Rs 4) R__law_told R__law_every) [.r c, .d (.int n), .un, .un, .un, .un, .un, .un, .un, .un, .un, .un, .un, .un] [cup c x y] P := by
  have step1 : ∀ (octs : List Int) (f x2 y2 : Int), Byts octs → (octs.length : Int) ≤ 4 * n → 0 ≤ f → f ≤ 5 → Cup x2 y2 → SX (t_right1 K R__law_roll R__law_some R__law_octets R__law_known R__law_least R_best_pieces R_price_of R_told_by R_least_price (Rs 4) R__law_told R__law_every) [.r c, .d (.int n), .d (octD octs), .d (.int f), .un, .un, .un, .un, .un, .un, .un, .un, .un, .un] [cup c x2 y2] P := by
    intro octs f x2 y2 hb hol hf0 hf5 h2
    have hn : octs.length ≤ 80 := by omega
    refine sx_seq (sx_asg (ev_known (ev_ref rfl) (ev_var rfl) h2 (by omega) hb fun ks x3 y3 hF h3 => ?_))
    have hK := hF.known
    have hfl := hF.len
    have hA : Args ks octs f := ⟨hK, by omega, hb.byt, hf0, by omega⟩
    refine sx_seq (sx_asgD (d := .int (pr ks octs f octs.length)) (ev_dgetKX (k := kI 0) (ev_callO (ea_cons (ev_var rfl) (ea_cons (ev_var rfl) (ea_cons (ev_var rfl) ea_nil))) ⟨ks, octs, f, rfl, rfl, by omega, hK.kn, by omega, fun p les hg => ⟨p, les, rfl, rfl, hg⟩⟩) (fun O => ev_int)) ?_)
    refine sx_seq (sx_asg (ev_callN (ea_cons (ev_var rfl) (ea_cons (ev_var rfl) (ea_cons (ev_var rfl) ea_nil))) ⟨ks, octs, f, rfl, rfl, hA, by omega, fun ps hFit ht hcost => ⟨rfl, ?_⟩⟩))
    have hpr := pr_nat (f := f) hK.kn hf0 octs.length (Nat.le_refl _)
    have args : ∀ {ρ : List E} {O : Own}, ρ[4]? = some (.d (ksD ks)) → ρ[2]? = some (.d (octD octs)) → ρ[3]? = some (.d (.int f)) → EvA (tCons (tVar 4) (tCons (tVar 2) (tCons (tVar 3) tNil))) ρ O (argsD ks octs f) := fun q1 q2 q3 => ea_cons (ev_var q1) (ea_cons (ev_var q2) (ea_cons (ev_var q3) ea_nil))
    refine sx_seq (sx_if (b := false) ((et_not (et_B (ev_callD (ea_cons (ev_tup (ds := [.int (pr ks octs f octs.length), octD octs, .int (pr ks octs f octs.length)]) (ea_cons (ev_callD (args rfl rfl rfl) ⟨ks, octs, f, rfl, hA, rfl⟩) (ea_cons ((ev_callD (ea_cons (ev_var rfl) (ea_cons (ev_var rfl) ea_nil)) ⟨ks, ps, rfl, hK, hFit, rfl⟩).is (by rw [ht])) (ea_cons ((ev_callD (ea_cons (ev_var rfl) (ea_cons (ev_var rfl) (ea_cons (ev_var rfl) ea_nil))) ⟨ks, ps, f, rfl, hK, hFit, hf0, by omega, rfl⟩).is (by rw [hcost])) ea_nil))) (by show 3 ≤ 100000; decide)) (ea_cons (ev_tup (ea_cons (ev_var rfl) (ea_cons (ev_var rfl) (ea_cons (ev_var rfl) ea_nil))) (by show 3 ≤ 100000; decide)) ea_nil)) ⟨.tuple [.int (pr ks octs f octs.length), octD octs, .int (pr ks octs f octs.length)], rfl, pl_three _ _ (by omega), rfl⟩))).is rfl) (fun hh => by cases hh) fun _ => sx_next ?_)
    have hpl := hFit.len
    refine sx_seq (sx_if (b := false) ((et_or (a := false) (b := false) ((et_test (ev_op ((ev_callD (ea_cons (ev_var rfl) (ea_cons (ev_var rfl) ea_nil)) ⟨ks, ps, rfl, hFit, rfl⟩).is (by rw [ht])) (ev_var rfl) (rd_ne (shaped_T octs) (shaped_T octs)))).is (by rw [eqv_octs]; simp)) fun _ => (et_test (ev_op ((ev_cb (ea_cons ((ev_lcM (ei_tup (ev_var rfl)) (by rw [List.length_map]; omega) (fCost f) fun i d hd => ?_).is (by rw [cost_list])) ea_nil) rc_sum).is (show PyData.int (costU f ps) = _ by rw [hcost])) (ev_var rfl) (rd_ne rfl rfl))).is (by rw [eqv_int]; simp)).is rfl) (fun hh => by cases hh) fun _ => sx_next ?_)
    · obtain ⟨q, rfl, hq, hm⟩ := ps_get hd
      rw [fCost_eq, pcD_eq]
      exact ⟨_, _, eg_tup (egs_cons eg_name (egs_cons eg_name egs_nil)) rfl, fun j hj => by simpa using hj, ev_cost (i := 3) (j := 10) (l := 11) rfl rfl rfl⟩
    have hcomp : EvD (tLc (iRng2 (tCons (tC (.int 1)) (tCons (tCB (rLenU K) (tCons (tVar 6) tNil)) tNil))) (gName 12) (tAnd (tTest (tOp (rEqD K) (tOp (rIx K) (tOp (rIx K) (tVar 6) (tOp (rI0 fun i j => .int (i - j)) (tVar 12) (tC (.int 1)))) (tC (.int 0))) (tC (.str strNew)))) (tTest (tOp (rEqD K) (tOp (rIx K) (tOp (rIx K) (tVar 6) (tVar 12)) (tC (.int 0))) (tC (.str strNew))))) (tVar 12) [12])
        [.r c, .d (.int n), .d (octD octs), .d (.int f), .d (ksD ks), .d (.int (pr ks octs f octs.length)), .d (psD ps), .un, .un, .un, .un, .un, .un, .un] [cup c x3 y3] (.list []) := by
      have h := ev_lc (O := [cup c x3 y3]) (te := tVar 12) (tt := tAnd (tTest (tOp (rEqD K) (tOp (rIx K) (tOp (rIx K) (tVar 6) (tOp (rI0 fun i j => .int (i - j)) (tVar 12) (tC (.int 1)))) (tC (.int 0))) (tC (.str strNew)))) (tTest (tOp (rEqD K) (tOp (rIx K) (tOp (rIx K) (tVar 6) (tVar 12)) (tC (.int 0))) (tC (.str strNew))))) (g := gName 12) (vs := [12]) (ρ := [.r c, .d (.int n), .d (octD octs), .d (.int f), .d (ksD ks), .d (.int (pr ks octs f octs.length)), .d (psD ps), .un, .un, .un, .un, .un, .un, .un])
        (ei_rng2 (m := 1) (n := (ps.length : Nat)) (ta := tCons (tC (.int 1)) (tCons (tCB (rLenU K) (tCons (tVar 6) tNil)) tNil)) (ea_cons ev_int (ea_cons ((ev_cb (ea_cons (ev_var (d := psD ps) rfl) ea_nil) len_tup).is (by rw [List.length_map])) ea_nil)) (by omega) (by omega)) (by rw [rngD_len]; omega) (fun _ => false) (fun d => d) fun i d hd => by
          obtain ⟨hi, rfl⟩ := rngD_get hd
          have hi1 : i + 1 < ps.length := by omega
          have hp : ps[i]? = some ps[i] := List.getElem?_eq_getElem (by omega)
          have hq : ps[i + 1]? = some ps[i + 1] := List.getElem?_eq_getElem hi1
          refine ⟨_, _, eg_name, fun j hj => hj, (et_and (b := ps[i + 1].isNew) ((et_test (ev_op (ev_op ((ev_op (ev_var (d := psD ps) rfl) (ev_op (ev_var rfl) ev_int rd_sub) (ix_tupD (d := pcD ps[i]) (atD (j := i) (by omega) (by rw [List.getElem?_map, hp]; rfl)))).is (pcD_eq _)) ev_int (ix_tupD (d := tagD ps[i]) rfl)) ev_str (rd_eq (sh_tag _) sh_n))).is (eqv_tagN _)) fun _ => (et_test (ev_op (ev_op ((ev_op (ev_var (d := psD ps) rfl) (ev_var rfl) (ix_tupD (d := pcD ps[i + 1]) (atD (j := i + 1) (by omega) (by rw [List.getElem?_map, hq]; rfl)))).is (pcD_eq _)) ev_int (ix_tupD (d := tagD ps[i + 1]) rfl)) ev_str (rd_eq (sh_tag _) sh_n))).is (eqv_tagN _)).is ?_, fun hh => by cases hh⟩
          cases hpn : ps[i].isNew with
          | false => rfl
          | true =>
            rw [hFit.good.adj i _ _ hp hq hpn]
            rfl
      rw [show ((rngD 1 ((ps.length : Int) - 1).toNat).filter fun _ => false) = [] by simp] at h
      exact h
    refine sx_seq (sx_if (b := false) ((et_or (a := false) (b := false) ((et_test (ev_op hcomp (ev_lst (ds := []) ea_nil (by decide)) (rd_ne rfl rfl))).is rfl) fun _ => (et_test (ev_op (ev_var rfl) (len_oct octs (ev_var rfl)) rd_gt)).is (decide_eq_false (by omega))).is rfl) (fun hh => by cases hh) fun _ => sx_next ?_)
    -- one chunk more
    have hmore : ∃ more : List (List Int), Known (ks ++ more) ∧ EvD (tIf (tAnd (tTest (tOp (rNeD K) (tVar 2) (tTup tNil))) (tTest (tOp (rNotInU K) (tSl (rSlU K) (tVar 2) tNoPart (tPart (tC (.int 7)))) (tVar 4)))) (tTup (tCons (tSl (rSlU K) (tVar 2) tNoPart (tPart (tC (.int 7)))) tNil)) (tTup tNil))
        [.r c, .d (.int n), .d (octD octs), .d (.int f), .d (ksD ks), .d (.int (pr ks octs f octs.length)), .d (psD ps), .un, .un, .un, .un, .un, .un, .un] [cup c x3 y3] (ksD more) ∧ more.length ≤ 1 := by
      have hsl : EvD (tSl (rSlU K) (tVar 2) tNoPart (tPart (tC (.int 7)))) [.r c, .d (.int n), .d (octD octs), .d (.int f), .d (ksD ks), .d (.int (pr ks octs f octs.length)), .d (psD ps), .un, .un, .un, .un, .un, .un, .un] [cup c x3 y3] (octD (octs.take 7)) :=
        (ev_sl (lo := none) (hi := some 7) (ev_var rfl) eo_no (eo_some ev_int) rs_tup).is (by rw [show (7 : Int) = ((7 : Nat) : Int) from rfl, cut_upto])
      have ht : EvT (tAnd (tTest (tOp (rNeD K) (tVar 2) (tTup tNil))) (tTest (tOp (rNotInU K) (tSl (rSlU K) (tVar 2) tNoPart (tPart (tC (.int 7)))) (tVar 4)))) [.r c, .d (.int n), .d (octD octs), .d (.int f), .d (ksD ks), .d (.int (pr ks octs f octs.length)), .d (psD ps), .un, .un, .un, .un, .un, .un, .un] [cup c x3 y3] (!decide (octs = []) && !decide (octs.take 7 ∈ ks)) :=
        et_and ((et_test (ev_op (ev_var rfl) (ev_tup (ds := ([] : List Int).map .int) ea_nil (by decide)) (rd_ne (shaped_T octs) rfl))).is (by rw [eqv_octs])) fun _ => (et_test (ev_op hsl (ev_var rfl) (nin_tup (shaped_T _) (shaped_TL ks)))).is (by unfold anyD; rw [any_octs])
      cases hcnd : (!decide (octs = []) && !decide (octs.take 7 ∈ ks)) with
      | false =>
        rw [hcnd] at ht
        exact ⟨[], by rw [List.append_nil]; exact hK, ev_if ht (fun hh => by cases hh) fun _ => ev_tup (ds := []) ea_nil (by decide), Nat.zero_le _⟩
      | true =>
        rw [hcnd] at ht
        obtain ⟨c1, c2⟩ := Bool.and_eq_true_iff.mp hcnd
        have c1 : octs ≠ [] := by simpa using c1
        have c2 : octs.take 7 ∉ ks := by simpa using c2
        refine ⟨[octs.take 7], ⟨by rw [List.length_append]; show _ + 1 ≤ 63; omega, fun z hz => ?_, fun z hz => ?_, fun z hz => ?_, ?_⟩, ev_if ht (fun _ => ev_tup (ds := [octD (octs.take 7)]) (ea_cons hsl ea_nil) (by show 1 ≤ 100000; decide)) (fun hh => by cases hh), Nat.le_refl _⟩
        · rcases List.mem_append.mp hz with hz | hz
          · exact hK.ne z hz
          · rw [List.mem_singleton.mp hz]
            intro e
            rw [List.take_eq_nil_iff] at e
            rcases e with e | e
            · cases e
            · exact c1 e
        · rcases List.mem_append.mp hz with hz | hz
          · exact hK.sz z hz
          · rw [List.mem_singleton.mp hz, List.length_take]
            omega
        · rcases List.mem_append.mp hz with hz | hz
          · exact hK.byt z hz
          · rw [List.mem_singleton.mp hz]
            exact fun o ho => hb.byt o (List.mem_of_mem_take ho)
        · rw [List.nodup_append]
          refine ⟨hK.nd, List.nodup_cons.mpr ⟨by simp, List.nodup_nil⟩, fun u hu v hv => ?_⟩
          rw [List.mem_singleton.mp hv]
          exact fun e => c2 (e ▸ hu)
    obtain ⟨more, hKm, hev, hml⟩ := hmore
    refine sx_seq (sx_asgD (d := ksD (ks ++ more)) ((ev_op (ev_var (d := ksD ks) rfl) hev (ad_tup (by rw [List.length_map, List.length_map]; omega))).is (by show PyData.tuple _ = PyData.tuple _; rw [List.map_append])) ?_)
    have hAm : Args (ks ++ more) octs f := ⟨hKm, by omega, hb.byt, hf0, by omega⟩
    have hle := pr_more (f := f) (octs := octs) hK.kn hKm.kn octs.length (Nat.le_refl _)
    refine sx_seq (sx_if (b := false) ((et_test (ev_op (ev_callD (ea_cons (ev_var rfl) (ea_cons (ev_var rfl) (ea_cons (ev_var rfl) ea_nil))) ⟨ks ++ more, octs, f, rfl, hAm, rfl⟩) (ev_var rfl) rd_gt)).is (decide_eq_false (by omega))) (fun hh => by cases hh) fun _ => sx_next ?_)
    refine sx_seq (sx_asgD (d := octD (octs.take 8)) ((ev_sl (lo := none) (hi := some 8) (ev_var rfl) eo_no (eo_some ev_int) rs_tup).is (by rw [show (8 : Int) = ((8 : Nat) : Int) from rfl, cut_upto])) ?_)
    have h8 : (octs.take 8).length ≤ 8 := by rw [List.length_take]; omega
    have hb8 : ∀ o ∈ octs.take 8, 0 ≤ o ∧ o ≤ 255 := fun o ho => hb.byt o (List.mem_of_mem_take ho)
    generalize octs.take 8 = few at h8 hb8
    have hA8 : Args ks few f := ⟨hK, by omega, hb8, hf0, by omega⟩
    refine sx_seq (sx_asg (ev_lcXX (ex_list (ev_callN (ea_cons (ev_var rfl) (ea_cons (ev_var rfl) ea_nil)) ⟨ks, few, f, rfl, rfl, hK.kn, hfl, h8, fun rows hrl hrs hlow hone => ⟨rfl, rows.map pathD, rfl, by rw [List.length_map]; omega, fun i acc O1 => O1 = [cup c x3 y3] ∧ acc = ((rows.take i).map (costR f)).map .int, ⟨rfl, rfl⟩, ?_, ?_⟩⟩))))
    · rintro i d acc O1 hd ⟨rfl, rfl⟩
      rw [List.getElem?_map] at hd
      obtain ⟨r, hr, rfl⟩ := Option.map_eq_some_iff.mp hd
      have hrlen := hrs r (List.mem_of_getElem? hr)
      refine ⟨_, _, true, eg_name, fun j hj => hj, et_yes, fun _ => (ev_cb (ea_cons ((ev_lcM (ei_tup (ev_var (d := pathD r) rfl)) (by rw [List.length_map]; omega) (fRow f) fun j e he => ?_).is (by rw [row_cost])) ea_nil) rc_sum).to ⟨_, rfl, rfl, ?_⟩, fun hh => by cases hh⟩
      · rw [List.getElem?_map] at he
        obtain ⟨o, ho, rfl⟩ := Option.map_eq_some_iff.mp he
        cases o with
        | none => exact ⟨_, _, eg_name, fun j hj => hj, ev_if (b := true) ((et_test (ev_op (ev_var rfl) ev_non is_non)).is rfl) (fun _ => ev_int) fun hh => by cases hh⟩
        | some m => exact ⟨_, _, eg_name, fun j hj => hj, ev_if (b := false) ((et_test (ev_op (ev_var rfl) ev_non is_non)).is rfl) (fun hh => by cases hh) fun _ => ev_var rfl⟩
      · rw [List.take_add_one, hr, List.map_append, List.map_append]
        rfl
    · rintro acc O1 ⟨rfl, rfl⟩
      rw [List.length_map, List.take_length]
      obtain ⟨r0, hr0, hr0c⟩ := hone
      refine sx_retD (ev_callD (ea_cons (ev_callD (ea_cons (ev_var rfl) (ea_cons (ev_var rfl) (ea_cons (ev_var rfl) ea_nil))) ⟨ks, few, f, rfl, hA8, rfl⟩) (ea_cons (ev_cb (ea_cons (ev_var (d := .list ((rows.map (costR f)).map .int)) rfl) ea_nil) (rc_min (m := pr ks few f few.length) (by rw [← hr0c]; exact List.mem_map.mpr ⟨r0, hr0, rfl⟩) fun z hz => (List.mem_map.mp hz).elim fun r hr => hr.2 ▸ hlow r hr.1)) ea_nil)) ⟨.int (pr ks few f few.length), rfl, by unfold plD; rfl, rfl⟩) (k x3 y3 h3)
  refine sx_seq (sx_asgGX (ev_tupX (ex_cons (ev_octets (ev_ref rfl) (ev_var rfl) h h0 (by omega) fun octs x2 y2 hb hol h2 => ex_cons (ev_some (ev_ref rfl) (ev_lstX (ex_cons (ev_int.to (ex_cons (ev_int.to (ex_cons (ev_int.to (ex_cons (ev_roll (ev_ref rfl) ev_int h2 (by decide) (by decide) fun r x3 y3 r0 r1 h3 => ex_nil ⟨[.int 0, .int 1, .int 2, .int r], rfl, by show 4 ≤ 100000; decide, _, x3, y3, rfl, rfl, h3, List.cons_ne_nil _ _, by show 4 < 1073741824; decide, fun d' x6 y6 hm h6 => ?_⟩))))))))))))))
  obtain ⟨f, rfl, hf0, hf5⟩ : ∃ f : Int, d' = .int f ∧ 0 ≤ f ∧ f ≤ 5 := by
    rcases List.mem_cons.mp hm with e | hm
    · exact ⟨0, e, by decide, by decide⟩
    · rcases List.mem_cons.mp hm with e | hm
      · exact ⟨1, e, by decide, by decide⟩
      · rcases mem_two hm with e | e
        · exact ⟨2, e, by decide, by decide⟩
        · exact ⟨r, e, r0, by omega⟩
  exact ex_nil ⟨[octD octs, .int f], rfl, by show 2 ≤ 100000; decide, _, _, _, rfl, eg_tup (egs_cons eg_name (egs_cons eg_name egs_nil)) rfl, step1 octs f x6 y6 hb hol hf0 hf5 h6⟩
end
section
variable {K : PySem.W.Frag} {O : Own} {P : Out → Prop} {ρ : List E} {te ta tb : TE} {Z : E → Own → Prop} {c : Addr} {x y n : Int}
theorem ev_andX (h1 : Ev ta ρ O (fun r O1 => ∃ a, r = .d (.bool a) ∧ (a = true → ∃ b, EvD tb ρ O1 (.bool b) ∧ Z (.d (.bool b)) O1) ∧ (a = false → Z (.d (.bool false)) O1))) : Ev (tAndV ta tb) ρ O Z := fun F G H σ w s Q q =>
  h1 F G H σ w s _ fun v G1 H1 r O1 z e1 w1 k1 => by
    obtain ⟨a, rfl, h2, h3⟩ := z
    refine ⟨a, k1.dat.isBl, ?_⟩
    cases a with
    | true =>
      obtain ⟨b, hb, hz⟩ := h2 rfl
      exact iteT (hb F G1 H1 σ w1 (s.mono e1) Q fun v G2 H2 e2 w2 k2 => q v G2 H2 _ O1 hz (e1.trans e2) w2 (.of k2))
    | false => exact iteF (q _ G1 H1 _ O1 (h3 rfl) e1 w1 (.of (.bl false)))
theorem lay_ps : ∀ ps : List Pc, PyData.canLayAll0 (ps.map pcD) = true
  | [] => rfl
  | p :: ps => by
    show (PyData.canLay0 (pcD p) && PyData.canLayAll0 (ps.map pcD)) = true
    rw [lay_ps ps]
    cases p with
    | new xs =>
      show ((PyData.canLay0 (.str strNew) && (PyData.canLayAll0 (xs.map .int) && true)) && true) = true
      rw [lay_ints, show PyData.canLay0 (.str strNew) = true by decide +kernel]
      rfl
    | kn i =>
      show ((PyData.canLay0 (.str strKnown) && (true && true)) && true) = true
      rw [show PyData.canLay0 (.str strKnown) = true by decide +kernel]
      rfl
theorem deep_ps : ∀ ps : List Pc, PyData.depthAll (ps.map pcD) ≤ 2
  | [] => Nat.zero_le _
  | p :: ps => by
    show max (PyData.depth (pcD p)) (PyData.depthAll (ps.map pcD)) ≤ 2
    have := deep_ps ps
    cases p with
    | new xs =>
      show max (max 0 (max (PyData.depthAll (xs.map .int) + 1) 0) + 1) _ ≤ 2
      rw [deep_ints]
      omega
    | kn i =>
      show max (max 0 (max 0 0) + 1) _ ≤ 2
      omega
theorem shaped_ps (ps : List Pc) : SeqAt.shaped (psD ps) = true := by
  show (PyData.canLayAll0 (ps.map pcD) && decide (PyData.depthAll (ps.map pcD) + 1 ≤ 64)) = true
  rw [lay_ps, decide_eq_true (by have := deep_ps ps; omega)]
  rfl
theorem eqv_noneT (xs : List PyData) : PyData.eqv (.tuple xs) (.tuple []) = xs.isEmpty := by cases xs <;> rfl
theorem at_last {α : Type} {xs : List α} {v : α} (h : xs.getLast? = some v) : L2.atI xs (-1) = some v := by
  have hne : xs ≠ [] := fun e => by rw [e] at h; cases h
  have hl := List.length_pos_iff.mpr hne
  rw [List.getLast?_eq_getElem?] at h
  unfold L2.atI ixN
  rw [if_neg (by omega)]
  have : ((-1 : Int) + (xs.length : Int)).toNat = xs.length - 1 := by omega
  first
    | (rw [if_pos (by omega)]; simp only [this]; exact h)
    | (rw [if_pos (by omega), this]; exact h)
def ks0 : List (List Int) := [[1, 2, 3], [3, 4]]
theorem pr0 : pr ks0 [3, 4] 1 2 = 1 := by decide +kernel
theorem known0 : Known ks0 := ⟨by decide, by decide, by decide, by decide, by decide⟩
theorem none0 : Known [] := ⟨by decide, by decide, by decide, by decide, by decide⟩
theorem fit0 : Fit [] [.new [9, 9]] := ⟨⟨fun p hp => by
  rw [List.mem_singleton.mp hp]
  exact ⟨by decide, by decide, by decide⟩, fun i p q h1 h2 => by
  cases i with
  | zero => cases h2
  | succ i => simp at h1⟩, by decide, by decide⟩
theorem b_law {vs : List V} {H : Hp} {Q : VK} {XE : XK} (h : spLaw K vs H Q XE) :
    t_law K (S__law_cup K) R__law_right R_least_price R_price_of R__law_known R__law_roll R__law_told R_told_by (Rs 4) { nx := fun _ H' => Q .non H', rt := Q } (L2.start ["script", "cup", "most", "known", "pieces", "frame", "turn", "is_new", "due", "word", "own"] vs) H := by
  obtain ⟨a, ns, rfl, hS, hl, k⟩ := h
  refine law_go (N := 9) (P := fun o => ∃ O', o = .rt (.d (.bool true)) O') rfl hS hl (fun p x y hc => ?_) fun G o ho => ?_
  case refine_2 =>
    obtain ⟨O', rfl⟩ := ho
    intro v G' H' e w hv
    rw [hv.dat.isBl]
    exact k H'
  show SX _ [.un, .r p, .un, .un, .un, .un, .un, .un, .un, .un, .un] _ _
  refine sx_seq (sx_for (ei_tup (ev_tup (ds := [.int 2, .int 6, .int 15, .int 20]) (ea_cons ev_int (ea_cons ev_int (ea_cons ev_int (ea_cons ev_int ea_nil)))) (by show 4 ≤ 100000; decide))) (fun i ρ1 O1 => ∃ e2 x y, ρ1 = [.un, .r p, e2, .un, .un, .un, .un, .un, .un, .un, .un] ∧ O1 = [cup p x y] ∧ Cup x y) ⟨.un, x, y, rfl, rfl, hc⟩ ?_ ?_)
  · rintro i d ρ1 O1 hd ⟨e2, x, y, rfl, rfl, hc⟩
    obtain ⟨n, rfl, hn⟩ : ∃ n : Int, d = .int n ∧ 0 ≤ n ∧ n ≤ 20 := by
      have hm := List.mem_of_getElem? hd
      rcases List.mem_cons.mp hm with e | hm
      · exact ⟨2, e, by decide, by decide⟩
      · rcases List.mem_cons.mp hm with e | hm
        · exact ⟨6, e, by decide, by decide⟩
        · rcases mem_two hm with e | e
          · exact ⟨15, e, by decide, by decide⟩
          · exact ⟨20, e, by decide, by decide⟩
    refine ⟨_, _, eg_name, ?_⟩
    refine sx_ifX (et_notX (et_BX (ev_call1 (ex_cons ((ev_ref rfl).to (ex_cons ((ev_var rfl).to (ex_nil ⟨0, _, rfl, p, x, y, n, rfl, rfl, hc, hn.1, hn.2, fun x' y' hc' => ⟨_, rfl, true, rfl, ?_⟩⟩))))))))
    exact iteF (sx_next ⟨_, x', y', rfl, rfl, hc'⟩)
  rintro ρ1 O1 ⟨e2, x, y, rfl, rfl, hc⟩
  refine sx_seq (sx_if (b := false) ((et_or (a := false) (b := false) ((et_test (ev_op (ev_callD (d := .int (pr ks0 [3, 4] 1 2)) (ea_cons (ev_tup (ds := [octD [1, 2, 3], octD [3, 4]]) (ea_cons (ev_tup (ds := [.int 1, .int 2, .int 3]) (ea_cons ev_int (ea_cons ev_int (ea_cons ev_int ea_nil))) (by show 3 ≤ 100000; decide)) (ea_cons (ev_tup (ds := [.int 3, .int 4]) (ea_cons ev_int (ea_cons ev_int ea_nil)) (by show 2 ≤ 100000; decide)) ea_nil)) (by show 2 ≤ 100000; decide)) (ea_cons (ev_tup (ds := [.int 3, .int 4]) (ea_cons ev_int (ea_cons ev_int ea_nil)) (by show 2 ≤ 100000; decide)) (ea_cons ev_int ea_nil))) ⟨ks0, [3, 4], 1, rfl, ⟨known0, by decide, by decide, by decide, by decide⟩, rfl⟩) ev_int (rd_ne rfl rfl))).is (by rw [pr0, eqv_int]; decide)) fun _ => (et_test (ev_op (ev_callD (d := .int (costU 2 [.new [9, 9]])) (ea_cons (ev_tup (ds := []) ea_nil (by decide)) (ea_cons (ev_tup (ds := [pcD (.new [9, 9])]) (ea_cons (ev_tup (ds := [.str strNew, octD [9, 9]]) (ea_cons ev_str (ea_cons (ev_tup (ds := [.int 9, .int 9]) (ea_cons ev_int (ea_cons ev_int ea_nil)) (by show 2 ≤ 100000; decide)) ea_nil)) (by show 2 ≤ 100000; decide)) ea_nil) (by show 1 ≤ 100000; decide)) (ea_cons ev_int ea_nil))) ⟨[], [.new [9, 9]], 2, rfl, none0, fit0, by decide, by decide, rfl⟩) ev_int (rd_ne rfl rfl))).is (by rw [eqv_int]; decide)).is rfl) (fun hh => by cases hh) fun _ => sx_next ?_)
  refine sx_seq (sx_asg (ev_opX (ev_known (octs := [1, 2, 3, 4]) (ev_ref rfl) (ev_tup (ds := [.int 1, .int 2, .int 3, .int 4]) (ea_cons ev_int (ea_cons ev_int (ea_cons ev_int (ea_cons ev_int ea_nil)))) (by show 4 ≤ 100000; decide)) hc (by decide) ⟨by decide⟩ fun ks x1 y1 hF h1 => ⟨ksD ks, rfl, (ev_tup (ds := [octD [250, 251, 252, 253, 254]]) (ea_cons (ev_tup (ds := [.int 250, .int 251, .int 252, .int 253, .int 254]) (ea_cons ev_int (ea_cons ev_int (ea_cons ev_int (ea_cons ev_int (ea_cons ev_int ea_nil))))) (by show 5 ≤ 100000; decide)) ea_nil) (by show 1 ≤ 100000; decide)).to ⟨_, ksD (ks ++ [[250, 251, 252, 253, 254]]), rfl, ?_, ?_⟩⟩)))
  · have := ad_tup (K := K) (xs := ks.map octD) (ys := [octD [250, 251, 252, 253, 254]]) (by rw [List.length_map]; have := hF.len; show _ + 1 ≤ 100000; omega)
    show RD _ _ _ (PyData.tuple ((ks ++ [[250, 251, 252, 253, 254]]).map octD))
    rw [List.map_append]
    exact this
  have hK : Known (ks ++ [[250, 251, 252, 253, 254]]) := by
    refine ⟨by rw [List.length_append]; have := hF.len; show _ + 1 ≤ 63; omega, fun z hz => ?_, fun z hz => ?_, fun z hz => ?_, ?_⟩
    · rcases List.mem_append.mp hz with hz | hz
      · exact hF.ne z hz
      · rw [List.mem_singleton.mp hz]
        decide
    · rcases List.mem_append.mp hz with hz | hz
      · have := hF.sz z hz
        omega
      · rw [List.mem_singleton.mp hz]
        decide
    · rcases List.mem_append.mp hz with hz | hz
      · exact hF.byt z hz
      · rw [List.mem_singleton.mp hz]
        decide
    · rw [List.nodup_append]
      refine ⟨hF.nd, List.nodup_cons.mpr ⟨by simp, List.nodup_nil⟩, fun u hu v hv => ?_⟩
      rw [List.mem_singleton.mp hv]
      intro e
      have := hF.sz u hu
      rw [e] at this
      exact absurd this (by decide)
  have hsz5 : ∀ z ∈ ks ++ [[250, 251, 252, 253, 254]], z.length ≤ 5 := fun z hz => by
    rcases List.mem_append.mp hz with hz | hz
    · have := hF.sz z hz
      omega
    · rw [List.mem_singleton.mp hz]
      decide
  have hkl : 1 ≤ (ks ++ [[250, 251, 252, 253, 254]]).length := by rw [List.length_append]; show 1 ≤ _ + 1; omega
  generalize ks ++ [[250, 251, 252, 253, 254]] = kk at hK hsz5 hkl
  refine sx_seq (sx_asgGX (ev_tupX (ex_cons ((ev_tup (ds := []) ea_nil (by decide)).to (ex_cons (ev_roll (ev_ref rfl) ev_int h1 (by decide) (by decide) fun f x2 y2 f0 f1 h2 => ex_nil ⟨[psD [], .int f], rfl, by show 2 ≤ 100000; decide, _, _, _, rfl, eg_tup (egs_cons eg_name (egs_cons eg_name egs_nil)) rfl, ?_⟩))))))
  refine sx_seq (sx_forX (ex_rng1 (ex_cons (ev_roll (ev_ref rfl) ev_int h2 (by decide) (by decide) fun r x3 y3 r0 r1 h3 => ex_nil ⟨r, rfl, by omega, ?_⟩))))
  refine ⟨fun i ρ1 O1 => ∃ (ps : List Pc) (x y : Int) (e6 e7 : E), ρ1 = [.un, .r p, e2, .d (ksD kk), .d (psD ps), .d (.int f), e6, e7, .un, .un, .un] ∧ O1 = [cup p x y] ∧ Cup x y ∧ Good kk ps ∧ ps.length ≤ i ∧ (toldU kk ps).length ≤ 5 * i,
    ⟨[], x3, y3, .un, .un, rfl, rfl, h3, ⟨fun q hq => (by cases hq), fun i q r h => (by simp at h)⟩, Nat.le_refl _, Nat.le_refl _⟩, ?_, ?_⟩
  · rintro i d ρ1 O1 hd ⟨ps, x4, y4, e6, e7, rfl, rfl, h4, hG, hpl, htl⟩
    have hi := rngD_get hd
    refine ⟨_, _, eg_name, ?_⟩
    -- the piece is put on
    have fin : ∀ (q : Pc) (x5 y5 : Int), okP kk q → (ownU kk q).length ≤ 5 → (q.isNew = true → ∀ u, ps.getLast? = some u → u.isNew = false) → Cup x5 y5 → ∃ (yy z : PyData), E.d (PyData.tuple [pcD q]) = E.d yy ∧ RD (rAddU K) (psD ps) yy z ∧ (z = psD (ps ++ [q]) ∧ Good kk (ps ++ [q]) ∧ (ps ++ [q]).length ≤ i + 1 ∧ (toldU kk (ps ++ [q])).length ≤ 5 * (i + 1)) := by
      intro q x5 y5 ho hlq hlast h5
      refine ⟨_, psD (ps ++ [q]), rfl, ?_, rfl, ⟨fun u hu => ?_, hG.adj.snoc hlast⟩, by rw [List.length_append]; show _ + 1 ≤ _; omega, ?_⟩
      · have := ad_tup (K := K) (xs := ps.map pcD) (ys := [pcD q]) (by rw [List.length_map]; show _ + 1 ≤ 100000; omega)
        show RD _ _ _ (PyData.tuple ((ps ++ [q]).map pcD))
        rw [List.map_append]
        exact this
      · rcases List.mem_append.mp hu with hu | hu
        · exact hG.ok u hu
        · rw [List.mem_singleton.mp hu]
          exact ho
      · rw [toldU_append, List.length_append]
        have : toldU kk [q] = ownU kk q := by show ownU kk q ++ [] = _; rw [List.append_nil]
        rw [this]
        omega
    -- whether it may be a new one
    refine sx_seq (sx_asg (Ev.weak (Z := fun r O1 => ∃ (b : Bool) (x5 y5 : Int), r = .d (.bool b) ∧ O1 = [cup p x5 y5] ∧ Cup x5 y5 ∧ (b = true → ∀ u, ps.getLast? = some u → u.isNew = false)) ?_ ?_))
    · refine ev_andX (ev_opX (ev_roll (ev_ref rfl) ev_int h4 (by decide) (by decide) fun r2 x5 y5 r20 r21 h5 => ⟨.int r2, rfl, ev_int.to ⟨.int 0, _, rfl, rd_eq rfl rfl, _, rfl, fun _ => ?_, fun _ => ⟨false, x5, y5, rfl, rfl, h5, fun hh => by cases hh⟩⟩⟩))
      cases hlast : ps.getLast? with
      | none =>
        have hnil : ps = [] := by simpa using hlast
        subst hnil
        refine ⟨_, ev_or (b := false) (ev_op (ev_var (d := psD []) rfl) (ev_tup (ds := []) ea_nil (by decide)) (rd_eq (shaped_ps []) rfl)) (fun hh => by rw [show PyData.eqv (psD []) (.tuple []) = true from rfl] at hh; cases hh), ⟨_, x5, y5, rfl, rfl, h5, fun _ u hu => by cases hu⟩⟩
      | some u =>
        refine ⟨_, ev_or (b := !u.isNew) (ev_op (ev_var (d := psD ps) rfl) (ev_tup (ds := []) ea_nil (by decide)) (rd_eq (shaped_ps ps) rfl)) fun _ => (ev_op (ev_op ((ev_op (ev_var (d := psD ps) rfl) (ev_un ev_int (z := .int (-1)) fun F G H vx w a Q q => ⟨1, a.isInt, q _ G H (Ex.refl G) w (.int _)⟩) (ix_tupD (d := pcD u) (at_last (by rw [List.getLast?_map, hlast]; rfl)))).is (pcD_eq u)) ev_int (ix_tupD (d := tagD u) rfl)) ev_str (rd_eq (sh_tag u) sh_k)).is (by rw [eqv_tagK]), ⟨_, x5, y5, rfl, rfl, h5, fun hb v hv => ?_⟩⟩
        cases hv
        rw [eqv_noneT] at hb
        have hne : (ps.map pcD).isEmpty = false := by
          cases ps with
          | nil => cases hlast
          | cons _ _ => rfl
        rw [hne] at hb
        simpa using hb
    · rintro r O' ⟨b, x5, y5, rfl, rfl, h5, hb⟩
      refine sx_asg (ev_opX ((ev_var (d := psD ps) rfl).to ⟨_, rfl, ev_tupX (ex_cons (ev_ifX (b := b) (et_B (ev_var rfl)) (fun hc => ?_) fun hc => ?_))⟩))
      · refine ev_tupX (ex_cons (ev_str.to (ex_cons (ev_opX (ev_tupX (ex_cons (ev_roll (ev_ref rfl) ev_int h5 (by decide) (by decide) fun o x6 y6 o0 o1 h6 => ex_nil ⟨[.int o], rfl, by show 1 ≤ 100000; decide, _, rfl, ev_opX (ev_int.to ⟨_, rfl, ev_roll (ev_ref rfl) ev_int h6 (by decide) (by decide) fun r3 x7 y7 r30 r31 h7 => ⟨_, _, rfl, ad_int, .int (1 + r3), octD (List.replicate (1 + r3).toNat o), rfl, ?_, ex_nil ⟨[.str strNew, octD (List.replicate (1 + r3).toNat o)], rfl, by show 2 ≤ 100000; decide, ex_nil ⟨[pcD (.new (List.replicate (1 + r3).toNat o))], rfl, by show 1 ≤ 100000; decide, ?_⟩⟩⟩⟩)⟩)))))))
        · have := mu_tup (K := K) (xs := [.int o]) (k := 1 + r3) (by omega) (by omega) (by show 1 * _ ≤ 1000000; omega)
          rw [rep_one] at this
          exact this
        · obtain ⟨yy, z, e, hrd, rfl, g1, g2, g3⟩ := fin (.new (List.replicate (1 + r3).toNat o)) x7 y7 ⟨fun e => by have := congrArg List.length e; rw [List.length_replicate] at this; simp at this; omega, fun u hu => by rw [List.eq_of_mem_replicate hu]; omega, by rw [List.length_replicate]; omega⟩ (by show (List.replicate (1 + r3).toNat o).length ≤ 5; rw [List.length_replicate]; omega) (fun _ => hb hc) h7
          exact ⟨yy, _, e, hrd, ps ++ [.new (List.replicate (1 + r3).toNat o)], x7, y7, _, _, rfl, rfl, h7, g1, g2, g3⟩
      · refine ev_tupX (ex_cons (ev_str.to (ex_cons (ev_roll (ev_ref rfl) ((ev_cb (ea_cons (ev_var (d := ksD kk) rfl) ea_nil) len_tup).is (by rw [List.length_map])) h5 (by omega) (by have := hK.len; omega) fun m x6 y6 m0 m1 h6 => ex_nil ⟨[.str strKnown, .int m], rfl, by show 2 ≤ 100000; decide, ex_nil ⟨[.tuple [.str strKnown, .int m]], rfl, by show 1 ≤ 100000; decide, ?_⟩⟩))))
        obtain ⟨j, rfl⟩ : ∃ j : Nat, m = (j : Int) := ⟨m.toNat, by omega⟩
        have hj : j < kk.length := by omega
        obtain ⟨yy, z, e, hrd, rfl, g1, g2, g3⟩ := fin (.kn j) x6 y6 hj (by
          show (kk.getD j []).length ≤ 5
          rw [List.getD_eq_getElem?_getD, List.getElem?_eq_getElem hj]
          exact hsz5 _ (List.getElem_mem hj)) (fun hh => by cases hh) h6
        exact ⟨yy, _, e, hrd, ps ++ [.kn j], x6, y6, _, _, rfl, rfl, h6, g1, g2, g3⟩
  · rintro ρ1 O1 ⟨ps, x4, y4, e6, e7, rfl, rfl, h4, hG, hpl, htl⟩
    rw [rngD_len] at hpl htl
    have hFit : Fit kk ps := ⟨hG, by omega, by omega⟩
    refine sx_seq (sx_asgD (d := .int (costU f ps)) (ev_cb (ea_cons ((ev_lcM (ei_tup (ev_var rfl)) (by rw [List.length_map]; omega) (fCost f) fun i d hd => ?_).is (by rw [cost_list])) ea_nil) rc_sum) ?_)
    · obtain ⟨q, rfl, hq, hm⟩ := ps_get hd
      rw [fCost_eq, pcD_eq]
      exact ⟨_, _, eg_tup (egs_cons eg_name (egs_cons eg_name egs_nil)) rfl, fun j hj => by simpa using hj, ev_cost (i := 5) (j := 9) (l := 10) rfl rfl rfl⟩
    · have hpl3 : plD 3 (.tuple [octD (toldU kk ps), .int (costU f ps)]) = true := by
        have h1 := pl_oct 1 (ns := toldU kk ps) (by omega)
        have h2 : plA 2 [octD (toldU kk ps), .int (costU f ps)] = true := by
          unfold plA
          rw [h1]
          unfold plA
          unfold plA
          unfold plD
          rfl
        unfold plD
        rw [h2]
        rfl
      exact sx_retD (ev_callD (ea_cons (ev_tup (ea_cons (ev_callD (ea_cons (ev_var rfl) (ea_cons (ev_var rfl) ea_nil)) ⟨kk, ps, rfl, hK, hFit, rfl⟩) (ea_cons (ev_callD (ea_cons (ev_var rfl) (ea_cons (ev_var rfl) (ea_cons (ev_var rfl) ea_nil))) ⟨kk, ps, f, rfl, hK, hFit, f0, by omega, rfl⟩) ea_nil)) (by show 2 ≤ 100000; decide)) (ea_cons (ev_tup (ea_cons (ev_callD (ea_cons (ev_var rfl) (ea_cons (ev_var rfl) ea_nil)) ⟨kk, ps, rfl, hFit, rfl⟩) (ea_cons (ev_var rfl) ea_nil)) (by show 2 ≤ 100000; decide)) ea_nil)) ⟨.tuple [octD (toldU kk ps), .int (costU f ps)], rfl, hpl3, rfl⟩) ⟨_, rfl⟩
end
/-! ### bodies and promises -/
def prP (d : PyData) : Out → Prop
  | .rt r O => r = .d d ∧ O = []
  | .nx _ O => d = .none ∧ O = []
  | _ => False
section
variable {t : TS} {f : List PyData → PyData → Prop} {n N : Nat}
theorem prD_len (h : ∀ ds d, f ds d → ds.length = n) : ∀ es O Z, prD f es O Z → es.length = n := by
  rintro es O Z ⟨ds, d, rfl, _, hf, _⟩
  rw [List.length_map]
  exact h ds d hf
theorem prD_body (h : ∀ ds d, f ds d → SX t (ds.map E.d ++ List.replicate (N - (ds.map E.d).length) .un) [] (prP d)) : ∀ es O Z, prD f es O Z → SX t (es ++ List.replicate (N - es.length) .un) O (Ret Z) := by
  rintro es O Z ⟨ds, d, rfl, rfl, hf, hz⟩
  refine (h ds d hf).weak fun o ho => ?_
  cases o with
  | nx ρ O =>
    obtain ⟨rfl, rfl⟩ := ho
    exact hz
  | rt r O =>
    obtain ⟨rfl, rfl⟩ := ho
    exact hz
  | bk ρ O => exact ho.elim
  | ct ρ O => exact ho.elim
end

theorem l_is_whole : ∀ es O Z, R_is_whole es O Z → es.length = 3 := prD_len (by rintro ds d ⟨v, lo, hi, rfl, rfl⟩; rfl)
theorem s_is_whole' {K : PySem.W.Frag} : ∀ es O Z, R_is_whole es O Z → SX (t_is_whole K) (es ++ List.replicate (3 - es.length) .un) O (Ret Z) := prD_body (by rintro ds d ⟨v, lo, hi, rfl, rfl⟩; exact b_is_whole ⟨rfl, rfl⟩)
theorem l_is_tuple_of : ∀ es O Z, R_is_tuple_of es O Z → es.length = 3 := prD_len (by rintro ds d ⟨v, lo, hi, rfl, rfl⟩; rfl)
theorem s_is_tuple_of' {K : PySem.W.Frag} : ∀ es O Z, R_is_tuple_of es O Z → SX (t_is_tuple_of K) (es ++ List.replicate (3 - es.length) .un) O (Ret Z) := prD_body (by rintro ds d ⟨v, lo, hi, rfl, rfl⟩; exact b_is_tuple_of ⟨rfl, rfl⟩)
theorem l_fits_octets : ∀ es O Z, R_fits_octets es O Z → es.length = 2 := prD_len (by rintro ds d ⟨v, most, rfl, hm, rfl⟩; rfl)
theorem s_fits_octets' {K : PySem.W.Frag} : ∀ es O Z, R_fits_octets es O Z → SX (t_fits_octets K R_is_tuple_of R_is_whole) (es ++ List.replicate (3 - es.length) .un) O (Ret Z) := prD_body (by rintro ds d ⟨v, most, rfl, hm, rfl⟩; exact b_fits_octets hm ⟨rfl, rfl⟩)
theorem l__law_roll : ∀ es O Z, R__law_roll es O Z → es.length = 2 := by rintro es O Z ⟨c, x, y, n, rfl, _⟩; rfl
theorem s__law_roll' {K : PySem.W.Frag} : ∀ es O Z, R__law_roll es O Z → SX (t__law_roll K) (es ++ List.replicate (4 - es.length) .un) O (Ret Z) := by
  rintro es O Z ⟨c, x, y, n, rfl, rfl, h, h0, h1, k⟩
  exact b_roll h h0 h1 k
theorem l__law_some : ∀ es O Z, R__law_some es O Z → es.length = 2 := by rintro es O Z ⟨c, x, y, n, rfl, _⟩; rfl
theorem s__law_some' {K : PySem.W.Frag} : ∀ es O Z, R__law_some es O Z → SX (t__law_some K R__law_roll) (es ++ List.replicate (2 - es.length) .un) O (Ret Z) := by
  rintro es O Z ⟨c, x, y, ds, rfl, rfl, h, h0, h1, k⟩
  exact b_some h h0 h1 k
theorem l__law_file : ∀ es O Z, R__law_file es O Z → es.length = 2 := by rintro es O Z ⟨c, x, y, n, rfl, _⟩; rfl
theorem s__law_file' {K : PySem.W.Frag} : ∀ es O Z, R__law_file es O Z → SX (t__law_file K R__law_roll R__law_some) (es ++ List.replicate (4 - es.length) .un) O (Ret Z) := by
  rintro es O Z ⟨c, x, y, n, rfl, rfl, h, h0, h1, k⟩
  exact b_file h h0 h1 k
theorem l__law_octets : ∀ es O Z, R__law_octets es O Z → es.length = 2 := by rintro es O Z ⟨c, x, y, n, rfl, _⟩; rfl
theorem s__law_octets' {K : PySem.W.Frag} : ∀ es O Z, R__law_octets es O Z → SX (t__law_octets K R__law_roll R__law_file R__law_some) (es ++ List.replicate (5 - es.length) .un) O (Ret Z) := by
  rintro es O Z ⟨c, x, y, n, rfl, rfl, h, h0, h1, k⟩
  exact b_octets h h0 h1 k
theorem l__law_same : ∀ n es O Z, Rs n es O Z → es.length = 2
  | 0, es, O, Z, h => h.elim
  | n + 1, es, O, Z, h => prD_len (by rintro ds d ⟨x, rfl, _, rfl⟩; rfl) es O Z h
theorem s__law_same' {K : PySem.W.Frag} (n : Nat) : ∀ es O Z, Rs (n + 1) es O Z → SX (t__law_same K (Rs n)) (es ++ List.replicate (3 - es.length) .un) O (Ret Z) :=
  prD_body (by rintro ds d ⟨x, rfl, h, rfl⟩; exact b_same h ⟨rfl, rfl⟩)

theorem l_fits_known : ∀ es O Z, R_fits_known es O Z → es.length = 1 := prD_len (by rintro ds d ⟨ks, rfl, h, rfl⟩; rfl)
theorem s_fits_known' {K : PySem.W.Frag} : ∀ es O Z, R_fits_known es O Z → SX (t_fits_known K R_is_tuple_of R_fits_octets) (es ++ List.replicate (2 - es.length) .un) O (Ret Z) := prD_body (by rintro ds d ⟨ks, rfl, h, rfl⟩; exact b_fits_known h ⟨rfl, rfl⟩)
theorem l_need_known : ∀ es O Z, R_need_known es O Z → es.length = 1 := prD_len (by rintro ds d ⟨ks, rfl, h, rfl⟩; rfl)
theorem s_need_known' {K : PySem.W.Frag} : ∀ es O Z, R_need_known es O Z → SX (t_need_known K R_fits_known) (es ++ List.replicate (1 - es.length) .un) O (Ret Z) := prD_body (by rintro ds d ⟨ks, rfl, h, rfl⟩; exact b_need_known h ⟨rfl, rfl⟩)
theorem l_fits_piece : ∀ es O Z, R_fits_piece es O Z → es.length = 2 := prD_len (by rintro ds d ⟨ks, p, rfl, h, rfl⟩; rfl)
theorem s_fits_piece' {K : PySem.W.Frag} : ∀ es O Z, R_fits_piece es O Z → SX (t_fits_piece K R_is_tuple_of R_is_whole R_fits_octets) (es ++ List.replicate (2 - es.length) .un) O (Ret Z) := prD_body (by rintro ds d ⟨ks, p, rfl, h, rfl⟩; exact b_fits_piece h ⟨rfl, rfl⟩)
theorem l_fits_pieces : ∀ es O Z, R_fits_pieces es O Z → es.length = 2 := prD_len (by rintro ds d ⟨ks, ps, rfl, h, rfl⟩; rfl)
theorem s_fits_pieces' {K : PySem.W.Frag} : ∀ es O Z, R_fits_pieces es O Z → SX (t_fits_pieces K R_is_tuple_of R_fits_piece) (es ++ List.replicate (6 - es.length) .un) O (Ret Z) := prD_body (by rintro ds d ⟨ks, ps, rfl, h, rfl⟩; exact b_fits_pieces h ⟨rfl, rfl⟩)
theorem l_steps_at : ∀ es O Z, R_steps_at es O Z → es.length = 4 := prD_len (by rintro ds d ⟨ks, octs, a, f, rfl, h, rfl⟩; rfl)
theorem s_steps_at' {K : PySem.W.Frag} : ∀ es O Z, R_steps_at es O Z → SX (t_steps_at K) (es ++ List.replicate (7 - es.length) .un) O (Ret Z) := prD_body (by rintro ds d ⟨ks, octs, a, f, rfl, h, rfl⟩; exact b_steps_at h ⟨rfl, rfl⟩)
theorem l_prices_in : ∀ es O Z, R_prices_in es O Z → es.length = 3 := prD_len (by rintro ds d ⟨ks, octs, f, rfl, h1, h2, h3, rfl⟩; rfl)
theorem s_prices_in' {K : PySem.W.Frag} : ∀ es O Z, R_prices_in es O Z → SX (t_prices_in K R_steps_at) (es ++ List.replicate (11 - es.length) .un) O (Ret Z) := prD_body (by rintro ds d ⟨ks, octs, f, rfl, h1, h2, h3, rfl⟩; exact b_prices_in h1 h2 h3 ⟨rfl, rfl⟩)
theorem l_need_all : ∀ es O Z, R_need_all es O Z → es.length = 3 := prD_len (by rintro ds d ⟨ks, octs, f, rfl, h, rfl⟩; rfl)
theorem s_need_all' {K : PySem.W.Frag} : ∀ es O Z, R_need_all es O Z → SX (t_need_all K R_need_known R_fits_octets R_is_whole) (es ++ List.replicate (3 - es.length) .un) O (Ret Z) := prD_body (by rintro ds d ⟨ks, octs, f, rfl, h, rfl⟩; exact b_need_all h ⟨rfl, rfl⟩)
theorem l_told_by : ∀ es O Z, R_told_by es O Z → es.length = 2 := prD_len (by rintro ds d ⟨ks, ps, rfl, h1, h2, rfl⟩; rfl)
theorem s_told_by' {K : PySem.W.Frag} : ∀ es O Z, R_told_by es O Z → SX (t_told_by K R_need_known R_fits_pieces) (es ++ List.replicate (5 - es.length) .un) O (Ret Z) := prD_body (by rintro ds d ⟨ks, ps, rfl, h1, h2, rfl⟩; exact b_told_by h1 h2 ⟨rfl, rfl⟩)
theorem l_price_of : ∀ es O Z, R_price_of es O Z → es.length = 3 := prD_len (by rintro ds d ⟨ks, ps, f, rfl, h1, h2, h3, h4, rfl⟩; rfl)
theorem s_price_of' {K : PySem.W.Frag} : ∀ es O Z, R_price_of es O Z → SX (t_price_of K R_need_known R_fits_pieces R_is_whole) (es ++ List.replicate (5 - es.length) .un) O (Ret Z) := prD_body (by rintro ds d ⟨ks, ps, f, rfl, h1, h2, h3, h4, rfl⟩; exact b_price_of h1 h2 h3 h4 ⟨rfl, rfl⟩)
theorem l_least_price : ∀ es O Z, R_least_price es O Z → es.length = 3 := prD_len (by rintro ds d ⟨ks, octs, f, rfl, h, rfl⟩; rfl)
theorem s_least_price' {K : PySem.W.Frag} : ∀ es O Z, R_least_price es O Z → SX (t_least_price K R_need_all R_prices_in) (es ++ List.replicate (3 - es.length) .un) O (Ret Z) := prD_body (by rintro ds d ⟨ks, octs, f, rfl, h, rfl⟩; exact b_least_price h ⟨rfl, rfl⟩)
theorem l__law_steps : ∀ es O Z, R__law_steps es O Z → es.length = 4 := prD_len (by rintro ds d ⟨ks, octs, a, f, rfl, h, rfl⟩; rfl)
theorem s__law_steps' {K : PySem.W.Frag} : ∀ es O Z, R__law_steps es O Z → SX (t__law_steps K) (es ++ List.replicate (5 - es.length) .un) O (Ret Z) := prD_body (by rintro ds d ⟨ks, octs, a, f, rfl, h, rfl⟩; exact b_law_steps h ⟨rfl, rfl⟩)
theorem l__law_told : ∀ es O Z, R__law_told es O Z → es.length = 2 := prD_len (by rintro ds d ⟨ks, ps, rfl, h, rfl⟩; rfl)
theorem s__law_told' {K : PySem.W.Frag} : ∀ es O Z, R__law_told es O Z → SX (t__law_told K) (es ++ List.replicate (5 - es.length) .un) O (Ret Z) := prD_body (by rintro ds d ⟨ks, ps, rfl, h, rfl⟩; exact b_law_told h ⟨rfl, rfl⟩)
theorem l_best_pieces : ∀ es O Z, R_best_pieces es O Z → es.length = 3 := by rintro es O Z ⟨ks, octs, f, rfl, _⟩; rfl
theorem s_best_pieces' {K : PySem.W.Frag} : ∀ es O Z, R_best_pieces es O Z → SX (t_best_pieces K R_need_all R_prices_in) (es ++ List.replicate (9 - es.length) .un) O (Ret Z) := by
  rintro es O Z ⟨ks, octs, f, rfl, rfl, h, hn, k⟩
  exact b_best_pieces h hn k
theorem l__law_known : ∀ es O Z, R__law_known es O Z → es.length = 2 := by rintro es O Z ⟨c, x, y, octs, rfl, _⟩; rfl
theorem s__law_known' {K : PySem.W.Frag} : ∀ es O Z, R__law_known es O Z → SX (t__law_known K R__law_roll R__law_file R__law_some) (es ++ List.replicate (6 - es.length) .un) O (Ret Z) := by
  rintro es O Z ⟨c, x, y, octs, rfl, rfl, h, hn, hb, k⟩
  exact b_law_known h hn hb k
theorem l__law_least : ∀ es O Z, R__law_least es O Z → es.length = 3 := by rintro es O Z ⟨ks, octs, f, rfl, _⟩; rfl
theorem s__law_least' {K : PySem.W.Frag} : ∀ es O Z, R__law_least es O Z → SX (t__law_least K R__law_steps) (es ++ List.replicate (8 - es.length) .un) O (Ret Z) := by
  rintro es O Z ⟨ks, octs, f, rfl, rfl, h1, h2, h3, k⟩
  exact b_law_least h1 h2 h3 k
theorem l__law_every : ∀ es O Z, R__law_every es O Z → es.length = 2 := by rintro es O Z ⟨ks, octs, f, rfl, _⟩; rfl
theorem s__law_every' {K : PySem.W.Frag} : ∀ es O Z, R__law_every es O Z → SX (t__law_every K) (es ++ List.replicate (8 - es.length) .un) O (Ret Z) := by
  rintro es O Z ⟨ks, octs, f, rfl, rfl, h1, h2, h3, k⟩
  exact b_law_every h1 h2 h3 k
theorem l__law_right : ∀ es O Z, R__law_right es O Z → es.length = 2 := by rintro es O Z ⟨c, x, y, n, rfl, _⟩; rfl
theorem s__law_right' {K : PySem.W.Frag} : ∀ es O Z, R__law_right es O Z → SX (t__law_right K R__law_roll R__law_some R__law_octets R__law_known R__law_least R_best_pieces R_price_of R_told_by R_least_price (Rs 4) R__law_told R__law_every) (es ++ List.replicate (14 - es.length) .un) O (Ret Z) := by
  rintro es O Z ⟨c, x, y, n, rfl, rfl, h, h0, h1, k⟩
  exact b_right h h0 h1 k
end K47
end Ly
namespace Ly
open PySem L2 Evl
namespace K47
def top (i : Nat) : Stmt := PySem.Challenge.pw_layersheld_k47_whole_least_pieces.main.body.getD i (.Pass ⟨0, 0, 0, 0⟩)
structure Df (K : PySem.W.Frag) (mg : Str → Option Value) (x : Str) (st : Stmt) (ps : List Str) (f : Addr) (fd : FuncData) : Prop where
  fn : Fun K x x st f fd
  mg : mg x = some (.ref f)
  b : Binds K fd ps []
theorem Df.kp {K : PySem.W.Frag} {mg : Str → Option Value} {x : Str} {st : Stmt} {ps : List Str} {f : Addr} {fd : FuncData} (D : Df K mg x st ps f fd) : PySem.W.keepIn K (.ref f) = true := D.fn.kp
structure Txt (mg : Str → Option Value) : Prop where
  cFRAME : ∃ u, mg "FRAME" = some u ∧ RelV (.int 100) u
  cKNOWN : ∃ u, mg "KNOWN" = some u ∧ RelV (.int 64) u
  cOCTETS : ∃ u, mg "OCTETS" = some u ∧ RelV (.int 5000) u
  cSIZE : ∃ u, mg "SIZE" = some u ∧ RelV (.int 512) u
  nabs : mg "abs" = none
  nall : mg "all" = none
  nany : mg "any" = none
  nbool : mg "bool" = none
  nenumerate : mg "enumerate" = none
  nint : mg "int" = none
  nisinstance : mg "isinstance" = none
  nlen : mg "len" = none
  nlist : mg "list" = none
  nmin : mg "min" = none
  nrange : mg "range" = none
  nset : mg "set" = none
  nstr : mg "str" = none
  nsum : mg "sum" = none
  ntuple : mg "tuple" = none
  nzip : mg "zip" = none
abbrev s_is_whole : Stmt := top 6
abbrev N_is_whole : List Str := ["value", "low", "high"]
theorem sc_is_whole : FnScope N_is_whole ["value", "low", "high"] (defScope s_is_whole) := ⟨rfl, rfl, rfl, by decide +kernel, rfl, by decide +kernel, by decide +kernel⟩
abbrev s_is_tuple_of : Stmt := top 7
abbrev N_is_tuple_of : List Str := ["value", "low", "high"]
theorem sc_is_tuple_of : FnScope N_is_tuple_of ["value", "low", "high"] (defScope s_is_tuple_of) := ⟨rfl, rfl, rfl, by decide +kernel, rfl, by decide +kernel, by decide +kernel⟩
abbrev s_fits_octets : Stmt := top 8
abbrev N_fits_octets : List Str := ["value", "most", "one"]
theorem sc_fits_octets : FnScope N_fits_octets ["value", "most"] (defScope s_fits_octets) := ⟨rfl, rfl, rfl, by decide +kernel, rfl, by decide +kernel, by decide +kernel⟩
abbrev s_fits_known : Stmt := top 14
abbrev N_fits_known : List Str := ["value", "one"]
theorem sc_fits_known : FnScope N_fits_known ["value"] (defScope s_fits_known) := ⟨rfl, rfl, rfl, by decide +kernel, rfl, by decide +kernel, by decide +kernel⟩
abbrev s_need_known : Stmt := top 15
abbrev N_need_known : List Str := ["known"]
theorem sc_need_known : FnScope N_need_known ["known"] (defScope s_need_known) := ⟨rfl, rfl, rfl, by decide +kernel, rfl, by decide +kernel, by decide +kernel⟩
abbrev s_fits_piece : Stmt := top 16
abbrev N_fits_piece : List Str := ["known", "value"]
theorem sc_fits_piece : FnScope N_fits_piece ["known", "value"] (defScope s_fits_piece) := ⟨rfl, rfl, rfl, by decide +kernel, rfl, by decide +kernel, by decide +kernel⟩
abbrev s_fits_pieces : Stmt := top 17
abbrev N_fits_pieces : List Str := ["known", "value", "one", "other", "word", "own"]
theorem sc_fits_pieces : FnScope N_fits_pieces ["known", "value"] (defScope s_fits_pieces) := ⟨rfl, rfl, rfl, by decide +kernel, rfl, by decide +kernel, by decide +kernel⟩
abbrev s_steps_at : Stmt := top 18
abbrev N_steps_at : List Str := ["known", "octets", "at", "frame", "rows", "index", "chunk"]
theorem sc_steps_at : FnScope N_steps_at ["known", "octets", "at", "frame"] (defScope s_steps_at) := ⟨rfl, rfl, rfl, by decide +kernel, rfl, by decide +kernel, by decide +kernel⟩
abbrev s_prices_in : Stmt := top 19
abbrev N_prices_in : List Str := ["known", "octets", "frame", "found", "at", "rows", "least", "price", "there", "index", "row"]
theorem sc_prices_in : FnScope N_prices_in ["known", "octets", "frame"] (defScope s_prices_in) := ⟨rfl, rfl, rfl, by decide +kernel, rfl, by decide +kernel, by decide +kernel⟩
abbrev s_need_all : Stmt := top 20
abbrev N_need_all : List Str := ["known", "octets", "frame"]
theorem sc_need_all : FnScope N_need_all ["known", "octets", "frame"] (defScope s_need_all) := ⟨rfl, rfl, rfl, by decide +kernel, rfl, by decide +kernel, by decide +kernel⟩
abbrev s_told_by : Stmt := top 21
abbrev N_told_by : List Str := ["known", "pieces", "word", "own", "octet"]
theorem sc_told_by : FnScope N_told_by ["known", "pieces"] (defScope s_told_by) := ⟨rfl, rfl, rfl, by decide +kernel, rfl, by decide +kernel, by decide +kernel⟩
abbrev s_price_of : Stmt := top 22
abbrev N_price_of : List Str := ["known", "pieces", "frame", "word", "own"]
theorem sc_price_of : FnScope N_price_of ["known", "pieces", "frame"] (defScope s_price_of) := ⟨rfl, rfl, rfl, by decide +kernel, rfl, by decide +kernel, by decide +kernel⟩
abbrev s_least_price : Stmt := top 23
abbrev N_least_price : List Str := ["known", "octets", "frame"]
theorem sc_least_price : FnScope N_least_price ["known", "octets", "frame"] (defScope s_least_price) := ⟨rfl, rfl, rfl, by decide +kernel, rfl, by decide +kernel, by decide +kernel⟩
abbrev s_best_pieces : Stmt := top 24
abbrev N_best_pieces : List Str := ["known", "octets", "frame", "table", "at", "found", "new", "there", "index"]
theorem sc_best_pieces : FnScope N_best_pieces ["known", "octets", "frame"] (defScope s_best_pieces) := ⟨rfl, rfl, rfl, by decide +kernel, rfl, by decide +kernel, by decide +kernel⟩
abbrev s__law_cup : Stmt := top 26
abbrev N__law_cup : List Str := ["script", "cell"]
theorem sc__law_cup : FnScope N__law_cup ["script"] (defScope s__law_cup) := ⟨rfl, rfl, rfl, by decide +kernel, rfl, by decide +kernel, by decide +kernel⟩
abbrev s__law_roll : Stmt := top 27
abbrev N__law_roll : List Str := ["cup", "many", "found", "deep"]
theorem sc__law_roll : FnScope N__law_roll ["cup", "many"] (defScope s__law_roll) := ⟨rfl, rfl, rfl, by decide +kernel, rfl, by decide +kernel, by decide +kernel⟩
abbrev s__law_same : Stmt := top 28
abbrev N__law_same : List Str := ["told", "due", "at"]
theorem sc__law_same : FnScope N__law_same ["told", "due"] (defScope s__law_same) := ⟨rfl, rfl, rfl, by decide +kernel, rfl, by decide +kernel, by decide +kernel⟩
abbrev s__law_some : Stmt := top 29
abbrev N__law_some : List Str := ["cup", "things"]
theorem sc__law_some : FnScope N__law_some ["cup", "things"] (defScope s__law_some) := ⟨rfl, rfl, rfl, by decide +kernel, rfl, by decide +kernel, by decide +kernel⟩
abbrev s__law_file : Stmt := top 30
abbrev N__law_file : List Str := ["cup", "most", "base", "octet"]
theorem sc__law_file : FnScope N__law_file ["cup", "most"] (defScope s__law_file) := ⟨rfl, rfl, rfl, by decide +kernel, rfl, by decide +kernel, by decide +kernel⟩
abbrev s__law_octets : Stmt := top 31
abbrev N__law_octets : List Str := ["cup", "most", "found", "turn", "at"]
theorem sc__law_octets : FnScope N__law_octets ["cup", "most"] (defScope s__law_octets) := ⟨rfl, rfl, rfl, by decide +kernel, rfl, by decide +kernel, by decide +kernel⟩
abbrev s__law_known : Stmt := top 32
abbrev N__law_known : List Str := ["cup", "octets", "found", "turn", "at", "one"]
theorem sc__law_known : FnScope N__law_known ["cup", "octets"] (defScope s__law_known) := ⟨rfl, rfl, rfl, by decide +kernel, rfl, by decide +kernel, by decide +kernel⟩
abbrev s__law_steps : Stmt := top 33
abbrev N__law_steps : List Str := ["known", "octets", "at", "frame", "chunk"]
theorem sc__law_steps : FnScope N__law_steps ["known", "octets", "at", "frame"] (defScope s__law_steps) := ⟨rfl, rfl, rfl, by decide +kernel, rfl, by decide +kernel, by decide +kernel⟩
abbrev s__law_least : Stmt := top 34
abbrev N__law_least : List Str := ["known", "octets", "frame", "found", "back", "at", "price", "there"]
theorem sc__law_least : FnScope N__law_least ["known", "octets", "frame"] (defScope s__law_least) := ⟨rfl, rfl, rfl, by decide +kernel, rfl, by decide +kernel, by decide +kernel⟩
abbrev s__law_told : Stmt := top 35
abbrev N__law_told : List Str := ["known", "pieces", "found", "word", "own"]
theorem sc__law_told : FnScope N__law_told ["known", "pieces"] (defScope s__law_told) := ⟨rfl, rfl, rfl, by decide +kernel, rfl, by decide +kernel, by decide +kernel⟩
abbrev s__law_every : Stmt := top 36
abbrev N__law_every : List Str := ["known", "octets", "line", "found", "longer", "row", "at", "index"]
theorem sc__law_every : FnScope N__law_every ["known", "octets"] (defScope s__law_every) := ⟨rfl, rfl, rfl, by decide +kernel, rfl, by decide +kernel, by decide +kernel⟩
abbrev s__law_right : Stmt := top 37
abbrev N__law_right : List Str := ["cup", "most", "octets", "frame", "known", "least", "best", "more", "few", "every", "word", "own", "at", "row"]
theorem sc__law_right : FnScope N__law_right ["cup", "most"] (defScope s__law_right) := ⟨rfl, rfl, rfl, by decide +kernel, rfl, by decide +kernel, by decide +kernel⟩
abbrev s_law : Stmt := top 38
abbrev N_law : List Str := ["script", "cup", "most", "known", "pieces", "frame", "turn", "is_new", "due", "word", "own"]
theorem sc_law : FnScope N_law ["script"] (defScope s_law) := ⟨rfl, rfl, rfl, by decide +kernel, rfl, by decide +kernel, by decide +kernel⟩
section
variable {P : Program} {w : World} {K : PySem.W.Frag} {mg : Str → Option Value} {base : Heap}
theorem ok_is_whole {R : Pr} {f : Addr} {fd : FuncData} (T : Txt mg) (F : Fun K "is_whole" "is_whole" s_is_whole f fd)
    (hl : ∀ es O Z, R es O Z → es.length = 3) (hb : ∀ es O Z, R es O Z → SX (t_is_whole K) (es ++ List.replicate (N_is_whole.length - es.length) .un) O (Ret Z)) :
    FnOk P w K mg base CX0 1 f fd ["value", "low", "high"] (spX R) := by
  have sc := sc_is_whole
  refine F.ok sc (fun vs H Q E h => sp_len h hl) (fun cdv A outer s H vs Q E hr h => ?_)
  have hu := hr.units
  have hv := hv_of hr
  have hw := hu_of hr
  refine ⟨t_is_whole K, ?_, sp_run h hb⟩
  exact (pss_one (ps_ret (pe_and (pe_callB call_isi (by rfl) T.nisinstance (by decide +kernel) (pa_cons (pv 0) (pa_cons (pe_bltn (v := .ty "int") (by rfl) T.nint (by decide +kernel) rfl) pa_nil))) (pe_and (pe_not (pe_callB call_isi (by rfl) T.nisinstance (by decide +kernel) (pa_cons (pv 0) (pa_cons (pe_bltn (v := .ty "bool") (by rfl) T.nbool (by decide +kernel) rfl) pa_nil)))) (pe_one (pe_chain op_le op_le (pv 1) (pv 0) (pv 2)))))))
theorem ok_is_tuple_of {R : Pr} {f : Addr} {fd : FuncData} (T : Txt mg) (F : Fun K "is_tuple_of" "is_tuple_of" s_is_tuple_of f fd)
    (hl : ∀ es O Z, R es O Z → es.length = 3) (hb : ∀ es O Z, R es O Z → SX (t_is_tuple_of K) (es ++ List.replicate (N_is_tuple_of.length - es.length) .un) O (Ret Z)) :
    FnOk P w K mg base CX0 1 f fd ["value", "low", "high"] (spX R) := by
  have sc := sc_is_tuple_of
  refine F.ok sc (fun vs H Q E h => sp_len h hl) (fun cdv A outer s H vs Q E hr h => ?_)
  have hu := hr.units
  have hv := hv_of hr
  have hw := hu_of hr
  refine ⟨t_is_tuple_of K, ?_, sp_run h hb⟩
  exact (pss_one (ps_ret (pe_and (pe_callB call_isi (by rfl) T.nisinstance (by decide +kernel) (pa_cons (pv 0) (pa_cons (pe_bltn (v := .ty "tuple") (by rfl) T.ntuple (by decide +kernel) rfl) pa_nil))) (pe_one (pe_chain op_le op_le (pv 1) (pe_callB call_lenU (by rfl) T.nlen (by decide +kernel) (pa_cons (pv 0) pa_nil)) (pv 2))))))
theorem ok_fits_octets {R : Pr} {f : Addr} {fd : FuncData} (T : Txt mg) (F : Fun K "fits_octets" "fits_octets" s_fits_octets f fd) {R_is_tuple_of : Pr} {f_is_tuple_of : Addr} {fd_is_tuple_of : FuncData} (D_is_tuple_of : Df K mg "is_tuple_of" s_is_tuple_of ["value", "low", "high"] f_is_tuple_of fd_is_tuple_of) (G_is_tuple_of : FnOk P w K mg base CX0 1 f_is_tuple_of fd_is_tuple_of ["value", "low", "high"] (spX R_is_tuple_of)) {R_is_whole : Pr} {f_is_whole : Addr} {fd_is_whole : FuncData} (D_is_whole : Df K mg "is_whole" s_is_whole ["value", "low", "high"] f_is_whole fd_is_whole) (G_is_whole : FnOk P w K mg base CX0 1 f_is_whole fd_is_whole ["value", "low", "high"] (spX R_is_whole))
    (hl : ∀ es O Z, R es O Z → es.length = 2) (hb : ∀ es O Z, R es O Z → SX (t_fits_octets K R_is_tuple_of R_is_whole) (es ++ List.replicate (N_fits_octets.length - es.length) .un) O (Ret Z)) :
    FnOk P w K mg base CX0 2 f fd ["value", "most"] (spX R) := by
  have sc := sc_fits_octets
  refine F.ok sc (fun vs H Q E h => sp_len h hl) (fun cdv A outer s H vs Q E hr h => ?_)
  have hu := hr.units
  have hv := hv_of hr
  have hw := hu_of hr
  refine ⟨t_fits_octets K R_is_tuple_of R_is_whole, ?_, sp_run h hb⟩
  exact (pss_one (ps_ret (pe_and (pe_call G_is_tuple_of (hr.mono (by first | decide | exact Nat.le_refl _)) (by rfl) D_is_tuple_of.mg D_is_tuple_of.kp D_is_tuple_of.b .nil pass0 (pa_cons (pv 0) (pa_cons pe_int (pa_cons (pv 1) pa_nil)))) (pe_one (pe_callB (cr_all rfl) (by rfl) T.nall (by decide +kernel) (pa_cons (pe_lc (own := [("one", 2)]) (g := (gName 2)) (by rfl) sc.nd (pi_tup (pv 0)) (blkOk_by (own := [("one", 2)]) (N := N_fits_octets) (sc := defScope s_fits_octets) (by decide +kernel)) (fun _ _ _ _ _ => (pg_name (i := 2) sc.nd rfl (Or.inl rfl))) (fun _ _ _ _ _ => pts_nil) (fun _ _ _ _ _ => (pe_call G_is_whole (hr.mono (by first | decide | exact Nat.le_refl _)) (by rfl) D_is_whole.mg D_is_whole.kp D_is_whole.b .nil pass0 (pa_cons (pv 2) (pa_cons pe_int (pa_cons pe_int pa_nil)))))) pa_nil))))))
theorem ok_fits_known {R : Pr} {f : Addr} {fd : FuncData} (T : Txt mg) (F : Fun K "fits_known" "fits_known" s_fits_known f fd) {R_is_tuple_of : Pr} {f_is_tuple_of : Addr} {fd_is_tuple_of : FuncData} (D_is_tuple_of : Df K mg "is_tuple_of" s_is_tuple_of ["value", "low", "high"] f_is_tuple_of fd_is_tuple_of) (G_is_tuple_of : FnOk P w K mg base CX0 1 f_is_tuple_of fd_is_tuple_of ["value", "low", "high"] (spX R_is_tuple_of)) {R_fits_octets : Pr} {f_fits_octets : Addr} {fd_fits_octets : FuncData} (D_fits_octets : Df K mg "fits_octets" s_fits_octets ["value", "most"] f_fits_octets fd_fits_octets) (G_fits_octets : FnOk P w K mg base CX0 2 f_fits_octets fd_fits_octets ["value", "most"] (spX R_fits_octets))
    (hl : ∀ es O Z, R es O Z → es.length = 1) (hb : ∀ es O Z, R es O Z → SX (t_fits_known K R_is_tuple_of R_fits_octets) (es ++ List.replicate (N_fits_known.length - es.length) .un) O (Ret Z)) :
    FnOk P w K mg base CX0 3 f fd ["value"] (spX R) := by
  have sc := sc_fits_known
  refine F.ok sc (fun vs H Q E h => sp_len h hl) (fun cdv A outer s H vs Q E hr h => ?_)
  have hu := hr.units
  have hv := hv_of hr
  have hw := hu_of hr
  refine ⟨t_fits_known K R_is_tuple_of R_fits_octets, ?_, sp_run h hb⟩
  exact (pss_cons (ps_if (PW.pt (pw_or (pt_not (pt_val (pe_call G_is_tuple_of (hr.mono (by first | decide | exact Nat.le_refl _)) (by rfl) D_is_tuple_of.mg D_is_tuple_of.kp D_is_tuple_of.b .nil pass0 (pa_cons (pv 0) (pa_cons pe_int (pa_cons (pe_gc (by rfl) T.cKNOWN) pa_nil)))))) (pw_or1 (pt_not (pt_val (pe_callB (cr_all rfl) (by rfl) T.nall (by decide +kernel) (pa_cons (pe_lc (own := [("one", 1)]) (g := (gName 1)) (by rfl) sc.nd (pi_tup (pv 0)) (blkOk_by (own := [("one", 1)]) (N := N_fits_known) (sc := defScope s_fits_known) (by decide +kernel)) (fun _ _ _ _ _ => (pg_name (i := 1) sc.nd rfl (Or.inl rfl))) (fun _ _ _ _ _ => pts_nil) (fun _ _ _ _ _ => (pe_and (pe_call G_fits_octets (hr.mono (by first | decide | exact Nat.le_refl _)) (by rfl) D_fits_octets.mg D_fits_octets.kp D_fits_octets.b .nil pass0 (pa_cons (pv 1) (pa_cons (pe_gc (by rfl) T.cSIZE) pa_nil))) (pe_one (pe_cmpR (op_neD hu) (pv 1) (pe_tup pa_nil) (nomark _)))))) pa_nil))))))) (pss_one (ps_ret pe_bl)) pss_nil)
      (pss_one (ps_ret (pe_cmpR (op_eqD hu) (pe_lenSetT hu rfl (by rfl) T.nlen (by rfl) T.nset (pv 0)) (pe_callB call_lenU (by rfl) T.nlen (by decide +kernel) (pa_cons (pv 0) pa_nil)) (nomark _)))))
theorem ok_need_known {R : Pr} {f : Addr} {fd : FuncData} (T : Txt mg) (F : Fun K "need_known" "need_known" s_need_known f fd) {R_fits_known : Pr} {f_fits_known : Addr} {fd_fits_known : FuncData} (D_fits_known : Df K mg "fits_known" s_fits_known ["value"] f_fits_known fd_fits_known) (G_fits_known : FnOk P w K mg base CX0 3 f_fits_known fd_fits_known ["value"] (spX R_fits_known))
    (hl : ∀ es O Z, R es O Z → es.length = 1) (hb : ∀ es O Z, R es O Z → SX (t_need_known K R_fits_known) (es ++ List.replicate (N_need_known.length - es.length) .un) O (Ret Z)) :
    FnOk P w K mg base CX0 4 f fd ["known"] (spX R) := by
  have sc := sc_need_known
  refine F.ok sc (fun vs H Q E h => sp_len h hl) (fun cdv A outer s H vs Q E hr h => ?_)
  have hu := hr.units
  have hv := hv_of hr
  have hw := hu_of hr
  refine ⟨t_need_known K R_fits_known, ?_, sp_run h hb⟩
  exact (pss_one (ps_if (pt_not (pt_val (pe_call G_fits_known (hr.mono (by first | decide | exact Nat.le_refl _)) (by rfl) D_fits_known.mg D_fits_known.kp D_fits_known.b .nil pass0 (pa_cons (pv 0) pa_nil)))) pss_never pss_nil))
theorem ok_fits_piece {R : Pr} {f : Addr} {fd : FuncData} (T : Txt mg) (F : Fun K "fits_piece" "fits_piece" s_fits_piece f fd) {R_is_tuple_of : Pr} {f_is_tuple_of : Addr} {fd_is_tuple_of : FuncData} (D_is_tuple_of : Df K mg "is_tuple_of" s_is_tuple_of ["value", "low", "high"] f_is_tuple_of fd_is_tuple_of) (G_is_tuple_of : FnOk P w K mg base CX0 1 f_is_tuple_of fd_is_tuple_of ["value", "low", "high"] (spX R_is_tuple_of)) {R_is_whole : Pr} {f_is_whole : Addr} {fd_is_whole : FuncData} (D_is_whole : Df K mg "is_whole" s_is_whole ["value", "low", "high"] f_is_whole fd_is_whole) (G_is_whole : FnOk P w K mg base CX0 1 f_is_whole fd_is_whole ["value", "low", "high"] (spX R_is_whole)) {R_fits_octets : Pr} {f_fits_octets : Addr} {fd_fits_octets : FuncData} (D_fits_octets : Df K mg "fits_octets" s_fits_octets ["value", "most"] f_fits_octets fd_fits_octets) (G_fits_octets : FnOk P w K mg base CX0 2 f_fits_octets fd_fits_octets ["value", "most"] (spX R_fits_octets))
    (hl : ∀ es O Z, R es O Z → es.length = 2) (hb : ∀ es O Z, R es O Z → SX (t_fits_piece K R_is_tuple_of R_is_whole R_fits_octets) (es ++ List.replicate (N_fits_piece.length - es.length) .un) O (Ret Z)) :
    FnOk P w K mg base CX0 3 f fd ["known", "value"] (spX R) := by
  have sc := sc_fits_piece
  refine F.ok sc (fun vs H Q E h => sp_len h hl) (fun cdv A outer s H vs Q E hr h => ?_)
  have hu := hr.units
  have hv := hv_of hr
  have hw := hu_of hr
  refine ⟨t_fits_piece K R_is_tuple_of R_is_whole R_fits_octets, ?_, sp_run h hb⟩
  exact (pss_cons (ps_if (PW.pt (pw_or (pt_not (pt_val (pe_call G_is_tuple_of (hr.mono (by first | decide | exact Nat.le_refl _)) (by rfl) D_is_tuple_of.mg D_is_tuple_of.kp D_is_tuple_of.b .nil pass0 (pa_cons (pv 1) (pa_cons pe_int (pa_cons pe_int pa_nil)))))) (pw_or1 (pt_not (pt_val (pe_callB call_isi (by rfl) T.nisinstance (by decide +kernel) (pa_cons (pe_ix ix_seq (pv 1) pe_int (fun _ _ => rfl)) (pa_cons (pe_bltn (v := .ty "str") (by rfl) T.nstr (by decide +kernel) rfl) pa_nil)))))))) (pss_one (ps_ret pe_bl)) pss_nil)
      (pss_cons (ps_if (pt_cmpR (op_eqD hu) (pe_ix ix_seq (pv 1) pe_int (fun _ _ => rfl)) pe_str (nomark _)) (pss_one (ps_ret (pe_call G_is_whole (hr.mono (by first | decide | exact Nat.le_refl _)) (by rfl) D_is_whole.mg D_is_whole.kp D_is_whole.b .nil pass0 (pa_cons (pe_ix ix_seq (pv 1) pe_int (fun _ _ => rfl)) (pa_cons pe_int (pa_cons (pe_op op_sub (pe_callB call_lenU (by rfl) T.nlen (by decide +kernel) (pa_cons (pv 0) pa_nil)) pe_int) pa_nil)))))) pss_nil)
      (pss_one (ps_ret (pe_and (pe_cmpR (op_eqD hu) (pe_ix ix_seq (pv 1) pe_int (fun _ _ => rfl)) pe_str (nomark _)) (pe_and (pe_call G_fits_octets (hr.mono (by first | decide | exact Nat.le_refl _)) (by rfl) D_fits_octets.mg D_fits_octets.kp D_fits_octets.b .nil pass0 (pa_cons (pe_ix ix_seq (pv 1) pe_int (fun _ _ => rfl)) (pa_cons (pe_gc (by rfl) T.cOCTETS) pa_nil))) (pe_one (pe_cmpR (op_neD hu) (pe_ix ix_seq (pv 1) pe_int (fun _ _ => rfl)) (pe_tup pa_nil) (nomark _)))))))))
theorem ok_fits_pieces {R : Pr} {f : Addr} {fd : FuncData} (T : Txt mg) (F : Fun K "fits_pieces" "fits_pieces" s_fits_pieces f fd) {R_is_tuple_of : Pr} {f_is_tuple_of : Addr} {fd_is_tuple_of : FuncData} (D_is_tuple_of : Df K mg "is_tuple_of" s_is_tuple_of ["value", "low", "high"] f_is_tuple_of fd_is_tuple_of) (G_is_tuple_of : FnOk P w K mg base CX0 1 f_is_tuple_of fd_is_tuple_of ["value", "low", "high"] (spX R_is_tuple_of)) {R_fits_piece : Pr} {f_fits_piece : Addr} {fd_fits_piece : FuncData} (D_fits_piece : Df K mg "fits_piece" s_fits_piece ["known", "value"] f_fits_piece fd_fits_piece) (G_fits_piece : FnOk P w K mg base CX0 3 f_fits_piece fd_fits_piece ["known", "value"] (spX R_fits_piece))
    (hl : ∀ es O Z, R es O Z → es.length = 2) (hb : ∀ es O Z, R es O Z → SX (t_fits_pieces K R_is_tuple_of R_fits_piece) (es ++ List.replicate (N_fits_pieces.length - es.length) .un) O (Ret Z)) :
    FnOk P w K mg base CX0 4 f fd ["known", "value"] (spX R) := by
  have sc := sc_fits_pieces
  refine F.ok sc (fun vs H Q E h => sp_len h hl) (fun cdv A outer s H vs Q E hr h => ?_)
  have hu := hr.units
  have hv := hv_of hr
  have hw := hu_of hr
  refine ⟨t_fits_pieces K R_is_tuple_of R_fits_piece, ?_, sp_run h hb⟩
  exact (pss_cons (ps_if (PW.pt (pw_or (pt_not (pt_val (pe_call G_is_tuple_of (hr.mono (by first | decide | exact Nat.le_refl _)) (by rfl) D_is_tuple_of.mg D_is_tuple_of.kp D_is_tuple_of.b .nil pass0 (pa_cons (pv 1) (pa_cons pe_int (pa_cons (pe_gc (by rfl) T.cOCTETS) pa_nil)))))) (pw_or1 (pt_not (pt_val (pe_callB (cr_all rfl) (by rfl) T.nall (by decide +kernel) (pa_cons (pe_lc (own := [("one", 2)]) (g := (gName 2)) (by rfl) sc.nd (pi_tup (pv 1)) (blkOk_by (own := [("one", 2)]) (N := N_fits_pieces) (sc := defScope s_fits_pieces) (by decide +kernel)) (fun _ _ _ _ _ => (pg_name (i := 2) sc.nd rfl (Or.inl rfl))) (fun _ _ _ _ _ => pts_nil) (fun _ _ _ _ _ => (pe_call G_fits_piece (hr.mono (by first | decide | exact Nat.le_refl _)) (by rfl) D_fits_piece.mg D_fits_piece.kp D_fits_piece.b .nil pass0 (pa_cons (pv 0) (pa_cons (pv 2) pa_nil))))) pa_nil))))))) (pss_one (ps_ret pe_bl)) pss_nil)
      (pss_cons (ps_if (pt_val (pe_callB (cr_any rfl) (by rfl) T.nany (by decide +kernel) (pa_cons (pe_lc (own := [("one", 2), ("other", 3)]) (g := (gTup K 2 (gCons (gName 2) (gCons (gName 3) gNil)))) (by rfl) sc.nd (RZ.pi_zipA (by rfl) T.nzip (pa_cons (pv 1) (pa_cons (pe_slice sl_U (pv 1) (po_some pe_int) po_none) pa_nil))) (blkOk_by (own := [("one", 2), ("other", 3)]) (N := N_fits_pieces) (sc := defScope s_fits_pieces) (by decide +kernel)) (fun _ _ _ _ _ => (pg_tup (by rfl) (pgs_cons (pg_name (i := 2) sc.nd rfl (Or.inl rfl)) (pgs_cons (pg_name (i := 3) sc.nd rfl (Or.inl rfl)) pgs_nil)))) (fun _ _ _ _ _ => pts_nil) (fun _ _ _ _ _ => (pe_chain (op_eqD hu) (op_eqD hu) (pe_ix ix_seq (pv 2) pe_int (fun _ _ => rfl)) (pe_ix ix_seq (pv 3) pe_int (fun _ _ => rfl)) pe_str))) pa_nil))) (pss_one (ps_ret pe_bl)) pss_nil)
      (pss_one (ps_ret (pe_cmpR op_le (pe_callB (cr_sum rfl) (by rfl) T.nsum (by decide +kernel) (pa_cons (pe_lc (own := [("word", 4), ("own", 5)]) (g := (gTup K 2 (gCons (gName 4) (gCons (gName 5) gNil)))) (by rfl) sc.nd (pi_tup (pv 1)) (blkOk_by (own := [("word", 4), ("own", 5)]) (N := N_fits_pieces) (sc := defScope s_fits_pieces) (by decide +kernel)) (fun _ _ _ _ _ => (pg_tup (by rfl) (pgs_cons (pg_name (i := 4) sc.nd rfl (Or.inl rfl)) (pgs_cons (pg_name (i := 5) sc.nd rfl (Or.inl rfl)) pgs_nil)))) (fun _ _ _ _ _ => pts_nil) (fun _ _ _ _ _ => (pe_callB call_lenU (by rfl) T.nlen (by decide +kernel) (pa_cons (pe_ifExp (pt_cmpR (op_eqD hu) (pv 4) pe_str (nomark _)) (pe_ix ix_seq (pv 0) (pv 5) (fun _ _ => rfl)) (pv 5)) pa_nil)))) pa_nil)) (pe_gc (by rfl) T.cOCTETS) (nomark _))))))
theorem ok_steps_at {R : Pr} {f : Addr} {fd : FuncData} (T : Txt mg) (F : Fun K "steps_at" "steps_at" s_steps_at f fd)
    (hl : ∀ es O Z, R es O Z → es.length = 4) (hb : ∀ es O Z, R es O Z → SX (t_steps_at K) (es ++ List.replicate (N_steps_at.length - es.length) .un) O (Ret Z)) :
    FnOk P w K mg base CX0 1 f fd ["known", "octets", "at", "frame"] (spX R) := by
  have sc := sc_steps_at
  refine F.ok sc (fun vs H Q E h => sp_len h hl) (fun cdv A outer s H vs Q E hr h => ?_)
  have hu := hr.units
  have hv := hv_of hr
  have hw := hu_of hr
  refine ⟨t_steps_at K, ?_, sp_run h hb⟩
  exact (pss_cons (ps_set (i := 4) sc.nd rfl (Or.inl rfl) (pe_lst (pa_cons (pe_tup (pa_cons pe_int (pa_cons (pe_op op_addU (pv 2) pe_int) (pa_cons pe_non pa_nil)))) pa_nil)))
      (pss_cons (ps_for PassesOwn.never rfl (pi_enumT (by rfl) T.nenumerate (pa_cons (pv 0) pa_nil)) (pg_tup (by rfl) (pgs_cons (pg_name (i := 5) sc.nd rfl (Or.inl rfl)) (pgs_cons (pg_name (i := 6) sc.nd rfl (Or.inl rfl)) pgs_nil))) (pss_one (ps_if (pt_cmpR (op_eqD hu) (pe_slice sl_U (pv 1) (po_some (pv 2)) (po_some (pe_op op_addU (pv 2) (pe_callB call_lenU (by rfl) T.nlen (by decide +kernel) (pa_cons (pv 6) pa_nil))))) (pv 6) (nomark _)) (pss_one (ps_expr (pe_bm PySem.F.plainAttrs_list PySem.F.slot_list_append PySem.F.type_list_append mt_append (pv 4) (pa_cons (pe_tup (pa_cons (pv 3) (pa_cons (pe_op op_addU (pv 2) (pe_callB call_lenU (by rfl) T.nlen (by decide +kernel) (pa_cons (pv 6) pa_nil))) (pa_cons (pv 5) pa_nil)))) pa_nil)))) pss_nil)))
      (pss_one (ps_ret (pv 4)))))
theorem ok_prices_in {R : Pr} {f : Addr} {fd : FuncData} (T : Txt mg) (F : Fun K "prices_in" "prices_in" s_prices_in f fd) {R_steps_at : Pr} {f_steps_at : Addr} {fd_steps_at : FuncData} (D_steps_at : Df K mg "steps_at" s_steps_at ["known", "octets", "at", "frame"] f_steps_at fd_steps_at) (G_steps_at : FnOk P w K mg base CX0 1 f_steps_at fd_steps_at ["known", "octets", "at", "frame"] (spX R_steps_at))
    (hl : ∀ es O Z, R es O Z → es.length = 3) (hb : ∀ es O Z, R es O Z → SX (t_prices_in K R_steps_at) (es ++ List.replicate (N_prices_in.length - es.length) .un) O (Ret Z)) :
    FnOk P w K mg base CX0 2 f fd ["known", "octets", "frame"] (spX R) := by
  have sc := sc_prices_in
  refine F.ok sc (fun vs H Q E h => sp_len h hl) (fun cdv A outer s H vs Q E hr h => ?_)
  have hu := hr.units
  have hv := hv_of hr
  have hw := hu_of hr
  refine ⟨t_prices_in K R_steps_at, ?_, sp_run h hb⟩
  exact (pss_cons (ps_set (i := 3) sc.nd rfl (Or.inr rfl) (pe_lst (pa_cons (pe_tup (pa_cons pe_int (pa_cons pe_non pa_nil))) pa_nil)))
      (pss_cons (ps_for PassesOwn.never rfl (pi_range3 (by rfl) T.nrange (pa_cons (pe_op op_sub (pe_callB call_lenU (by rfl) T.nlen (by decide +kernel) (pa_cons (pv 1) pa_nil)) pe_int) (pa_cons (pe_un un_neg pe_int) (pa_cons (pe_un un_neg pe_int) pa_nil)))) (pg_name (i := 4) sc.nd rfl (Or.inl rfl)) (pss_cons (ps_setLc (i := 5) (own := [("price", 7), ("there", 8), ("index", 9)]) (g := (gTup K 3 (gCons (gName 7) (gCons (gName 8) (gCons (gName 9) gNil))))) (by rfl) sc.nd rfl rfl (sw_true rfl rfl rfl (by decide +kernel)) (pi_list (pe_call G_steps_at (hr.mono (by first | decide | exact Nat.le_refl _)) (by rfl) D_steps_at.mg D_steps_at.kp D_steps_at.b .nil pass0 (pa_cons (pv 0) (pa_cons (pv 1) (pa_cons (pv 4) (pa_cons (pv 2) pa_nil)))))) (blkOk_by (own := [("price", 7), ("there", 8), ("index", 9)]) (N := N_prices_in) (sc := defScope s_prices_in) (by decide +kernel)) (fun _ _ _ _ _ => (pg_tup (by rfl) (pgs_cons (pg_name (i := 7) sc.nd rfl (Or.inl rfl)) (pgs_cons (pg_name (i := 8) sc.nd rfl (Or.inl rfl)) (pgs_cons (pg_name (i := 9) sc.nd rfl (Or.inl rfl)) pgs_nil))))) (fun _ _ _ _ _ => pts_nil) (fun _ _ _ _ _ => (pe_tup (pa_cons (pe_op op_addU (pv 7) (pe_ix ix_seq (pe_ix ix_seq (pv 3) (pe_op op_sub (pe_callB call_lenU (by rfl) T.nlen (by decide +kernel) (pa_cons (pv 1) pa_nil)) (pv 8)) (fun _ _ => rfl)) pe_int (fun _ _ => rfl))) (pa_cons (pv 8) (pa_cons (pv 9) pa_nil))))))
      (pss_cons (ps_set (i := 6) sc.nd rfl (Or.inr rfl) (pe_callB (cr_min rfl) (by rfl) T.nmin (by decide +kernel) (pa_cons (pe_lc (own := [("row", 10)]) (g := (gName 10)) (by rfl) sc.nd (pi_list (pv 5)) (blkOk_by (own := [("row", 10)]) (N := N_prices_in) (sc := defScope s_prices_in) (by decide +kernel)) (fun _ _ _ _ _ => (pg_name (i := 10) sc.nd rfl (Or.inl rfl))) (fun _ _ _ _ _ => pts_nil) (fun _ _ _ _ _ => (pe_ix ix_seq (pv 10) pe_int (fun _ _ => rfl)))) pa_nil)))
      (pss_one (ps_expr (pe_bm PySem.F.plainAttrs_list PySem.F.slot_list_append PySem.F.type_list_append mt_append (pv 3) (pa_cons (pe_tup (pa_cons (pv 6) (pa_cons (pe_ix ix_seq (pe_lc (own := [("row", 10)]) (g := (gName 10)) (by rfl) sc.nd (pi_list (pv 5)) (blkOk_by (own := [("row", 10)]) (N := N_prices_in) (sc := defScope s_prices_in) (by decide +kernel)) (fun _ _ _ _ _ => (pg_name (i := 10) sc.nd rfl (Or.inl rfl))) (fun _ _ _ _ _ => (pts_one (pt_cmpR (op_eqD hu) (pe_ix ix_seq (pv 10) pe_int (fun _ _ => rfl)) (pv 6) (nomark _)))) (fun _ _ _ _ _ => (pe_slice sl_U (pv 10) (po_some pe_int) po_none))) pe_int (fun _ _ => rfl)) pa_nil))) pa_nil)))))))
      (pss_one (ps_ret (pe_revL (pv 3))))))
theorem ok_need_all {R : Pr} {f : Addr} {fd : FuncData} (T : Txt mg) (F : Fun K "need_all" "need_all" s_need_all f fd) {R_need_known : Pr} {f_need_known : Addr} {fd_need_known : FuncData} (D_need_known : Df K mg "need_known" s_need_known ["known"] f_need_known fd_need_known) (G_need_known : FnOk P w K mg base CX0 4 f_need_known fd_need_known ["known"] (spX R_need_known)) {R_fits_octets : Pr} {f_fits_octets : Addr} {fd_fits_octets : FuncData} (D_fits_octets : Df K mg "fits_octets" s_fits_octets ["value", "most"] f_fits_octets fd_fits_octets) (G_fits_octets : FnOk P w K mg base CX0 2 f_fits_octets fd_fits_octets ["value", "most"] (spX R_fits_octets)) {R_is_whole : Pr} {f_is_whole : Addr} {fd_is_whole : FuncData} (D_is_whole : Df K mg "is_whole" s_is_whole ["value", "low", "high"] f_is_whole fd_is_whole) (G_is_whole : FnOk P w K mg base CX0 1 f_is_whole fd_is_whole ["value", "low", "high"] (spX R_is_whole))
    (hl : ∀ es O Z, R es O Z → es.length = 3) (hb : ∀ es O Z, R es O Z → SX (t_need_all K R_need_known R_fits_octets R_is_whole) (es ++ List.replicate (N_need_all.length - es.length) .un) O (Ret Z)) :
    FnOk P w K mg base CX0 5 f fd ["known", "octets", "frame"] (spX R) := by
  have sc := sc_need_all
  refine F.ok sc (fun vs H Q E h => sp_len h hl) (fun cdv A outer s H vs Q E hr h => ?_)
  have hu := hr.units
  have hv := hv_of hr
  have hw := hu_of hr
  refine ⟨t_need_all K R_need_known R_fits_octets R_is_whole, ?_, sp_run h hb⟩
  exact (pss_cons (ps_expr (pe_call G_need_known (hr.mono (by first | decide | exact Nat.le_refl _)) (by rfl) D_need_known.mg D_need_known.kp D_need_known.b .nil pass0 (pa_cons (pv 0) pa_nil)))
      (pss_cons (ps_if (pt_not (pt_val (pe_call G_fits_octets (hr.mono (by first | decide | exact Nat.le_refl _)) (by rfl) D_fits_octets.mg D_fits_octets.kp D_fits_octets.b .nil pass0 (pa_cons (pv 1) (pa_cons (pe_gc (by rfl) T.cOCTETS) pa_nil))))) pss_never pss_nil)
      (pss_one (ps_if (pt_not (pt_val (pe_call G_is_whole (hr.mono (by first | decide | exact Nat.le_refl _)) (by rfl) D_is_whole.mg D_is_whole.kp D_is_whole.b .nil pass0 (pa_cons (pv 2) (pa_cons pe_int (pa_cons (pe_gc (by rfl) T.cFRAME) pa_nil)))))) pss_never pss_nil))))
theorem ok_told_by {R : Pr} {f : Addr} {fd : FuncData} (T : Txt mg) (F : Fun K "told_by" "told_by" s_told_by f fd) {R_need_known : Pr} {f_need_known : Addr} {fd_need_known : FuncData} (D_need_known : Df K mg "need_known" s_need_known ["known"] f_need_known fd_need_known) (G_need_known : FnOk P w K mg base CX0 4 f_need_known fd_need_known ["known"] (spX R_need_known)) {R_fits_pieces : Pr} {f_fits_pieces : Addr} {fd_fits_pieces : FuncData} (D_fits_pieces : Df K mg "fits_pieces" s_fits_pieces ["known", "value"] f_fits_pieces fd_fits_pieces) (G_fits_pieces : FnOk P w K mg base CX0 4 f_fits_pieces fd_fits_pieces ["known", "value"] (spX R_fits_pieces))
    (hl : ∀ es O Z, R es O Z → es.length = 2) (hb : ∀ es O Z, R es O Z → SX (t_told_by K R_need_known R_fits_pieces) (es ++ List.replicate (N_told_by.length - es.length) .un) O (Ret Z)) :
    FnOk P w K mg base CX0 5 f fd ["known", "pieces"] (spX R) := by
  have sc := sc_told_by
  refine F.ok sc (fun vs H Q E h => sp_len h hl) (fun cdv A outer s H vs Q E hr h => ?_)
  have hu := hr.units
  have hv := hv_of hr
  have hw := hu_of hr
  refine ⟨t_told_by K R_need_known R_fits_pieces, ?_, sp_run h hb⟩
  exact (pss_cons (ps_expr (pe_call G_need_known (hr.mono (by first | decide | exact Nat.le_refl _)) (by rfl) D_need_known.mg D_need_known.kp D_need_known.b .nil pass0 (pa_cons (pv 0) pa_nil)))
      (pss_cons (ps_if (pt_not (pt_val (pe_call G_fits_pieces (hr.mono (by first | decide | exact Nat.le_refl _)) (by rfl) D_fits_pieces.mg D_fits_pieces.kp D_fits_pieces.b .nil pass0 (pa_cons (pv 0) (pa_cons (pv 1) pa_nil))))) pss_never pss_nil)
      (pss_one (ps_ret (pe_callTy call_tupOf (by rfl) T.ntuple (by decide +kernel) (pa_cons (pe_lc2 (own := [("word", 2), ("own", 3), ("octet", 4)]) (g := (gTup K 2 (gCons (gName 2) (gCons (gName 3) gNil)))) (g1 := (gName 4)) (vs1 := [4]) (by rfl) sc.nd (pi_tup (pv 1)) (blkOk_by (own := [("word", 2), ("own", 3), ("octet", 4)]) (N := N_told_by) (sc := defScope s_told_by) (by decide +kernel)) (by decide) (fun _ _ _ _ _ => (pg_tup (by rfl) (pgs_cons (pg_name (i := 2) sc.nd rfl (Or.inl rfl)) (pgs_cons (pg_name (i := 3) sc.nd rfl (Or.inl rfl)) pgs_nil)))) (fun _ _ _ _ _ => pts_nil) (fun _ _ _ _ _ => (pi_tup (pe_ifExp (pt_cmpR (op_eqD hu) (pv 2) pe_str (nomark _)) (pe_ix ix_seq (pv 0) (pv 3) (fun _ _ => rfl)) (pv 3)))) (fun _ _ _ _ _ => (pg_name (i := 4) sc.nd rfl (Or.inl rfl))) (fun _ _ _ _ _ => pts_nil) (fun _ _ _ _ _ => (pv 4))) pa_nil))))))
theorem ok_price_of {R : Pr} {f : Addr} {fd : FuncData} (T : Txt mg) (F : Fun K "price_of" "price_of" s_price_of f fd) {R_need_known : Pr} {f_need_known : Addr} {fd_need_known : FuncData} (D_need_known : Df K mg "need_known" s_need_known ["known"] f_need_known fd_need_known) (G_need_known : FnOk P w K mg base CX0 4 f_need_known fd_need_known ["known"] (spX R_need_known)) {R_fits_pieces : Pr} {f_fits_pieces : Addr} {fd_fits_pieces : FuncData} (D_fits_pieces : Df K mg "fits_pieces" s_fits_pieces ["known", "value"] f_fits_pieces fd_fits_pieces) (G_fits_pieces : FnOk P w K mg base CX0 4 f_fits_pieces fd_fits_pieces ["known", "value"] (spX R_fits_pieces)) {R_is_whole : Pr} {f_is_whole : Addr} {fd_is_whole : FuncData} (D_is_whole : Df K mg "is_whole" s_is_whole ["value", "low", "high"] f_is_whole fd_is_whole) (G_is_whole : FnOk P w K mg base CX0 1 f_is_whole fd_is_whole ["value", "low", "high"] (spX R_is_whole))
    (hl : ∀ es O Z, R es O Z → es.length = 3) (hb : ∀ es O Z, R es O Z → SX (t_price_of K R_need_known R_fits_pieces R_is_whole) (es ++ List.replicate (N_price_of.length - es.length) .un) O (Ret Z)) :
    FnOk P w K mg base CX0 5 f fd ["known", "pieces", "frame"] (spX R) := by
  have sc := sc_price_of
  refine F.ok sc (fun vs H Q E h => sp_len h hl) (fun cdv A outer s H vs Q E hr h => ?_)
  have hu := hr.units
  have hv := hv_of hr
  have hw := hu_of hr
  refine ⟨t_price_of K R_need_known R_fits_pieces R_is_whole, ?_, sp_run h hb⟩
  exact (pss_cons (ps_expr (pe_call G_need_known (hr.mono (by first | decide | exact Nat.le_refl _)) (by rfl) D_need_known.mg D_need_known.kp D_need_known.b .nil pass0 (pa_cons (pv 0) pa_nil)))
      (pss_cons (ps_if (pt_not (pt_val (pe_call G_fits_pieces (hr.mono (by first | decide | exact Nat.le_refl _)) (by rfl) D_fits_pieces.mg D_fits_pieces.kp D_fits_pieces.b .nil pass0 (pa_cons (pv 0) (pa_cons (pv 1) pa_nil))))) pss_never pss_nil)
      (pss_cons (ps_if (pt_not (pt_val (pe_call G_is_whole (hr.mono (by first | decide | exact Nat.le_refl _)) (by rfl) D_is_whole.mg D_is_whole.kp D_is_whole.b .nil pass0 (pa_cons (pv 2) (pa_cons pe_int (pa_cons (pe_gc (by rfl) T.cFRAME) pa_nil)))))) pss_never pss_nil)
      (pss_one (ps_ret (pe_callB (cr_sum rfl) (by rfl) T.nsum (by decide +kernel) (pa_cons (pe_lc (own := [("word", 3), ("own", 4)]) (g := (gTup K 2 (gCons (gName 3) (gCons (gName 4) gNil)))) (by rfl) sc.nd (pi_tup (pv 1)) (blkOk_by (own := [("word", 3), ("own", 4)]) (N := N_price_of) (sc := defScope s_price_of) (by decide +kernel)) (fun _ _ _ _ _ => (pg_tup (by rfl) (pgs_cons (pg_name (i := 3) sc.nd rfl (Or.inl rfl)) (pgs_cons (pg_name (i := 4) sc.nd rfl (Or.inl rfl)) pgs_nil)))) (fun _ _ _ _ _ => pts_nil) (fun _ _ _ _ _ => (pe_ifExp (pt_cmpR (op_eqD hu) (pv 3) pe_str (nomark _)) (pv 2) (pe_callB call_lenU (by rfl) T.nlen (by decide +kernel) (pa_cons (pv 4) pa_nil))))) pa_nil)))))))
theorem ok_least_price {R : Pr} {f : Addr} {fd : FuncData} (T : Txt mg) (F : Fun K "least_price" "least_price" s_least_price f fd) {R_need_all : Pr} {f_need_all : Addr} {fd_need_all : FuncData} (D_need_all : Df K mg "need_all" s_need_all ["known", "octets", "frame"] f_need_all fd_need_all) (G_need_all : FnOk P w K mg base CX0 5 f_need_all fd_need_all ["known", "octets", "frame"] (spX R_need_all)) {R_prices_in : Pr} {f_prices_in : Addr} {fd_prices_in : FuncData} (D_prices_in : Df K mg "prices_in" s_prices_in ["known", "octets", "frame"] f_prices_in fd_prices_in) (G_prices_in : FnOk P w K mg base CX0 2 f_prices_in fd_prices_in ["known", "octets", "frame"] (spX R_prices_in))
    (hl : ∀ es O Z, R es O Z → es.length = 3) (hb : ∀ es O Z, R es O Z → SX (t_least_price K R_need_all R_prices_in) (es ++ List.replicate (N_least_price.length - es.length) .un) O (Ret Z)) :
    FnOk P w K mg base CX0 6 f fd ["known", "octets", "frame"] (spX R) := by
  have sc := sc_least_price
  refine F.ok sc (fun vs H Q E h => sp_len h hl) (fun cdv A outer s H vs Q E hr h => ?_)
  have hu := hr.units
  have hv := hv_of hr
  have hw := hu_of hr
  refine ⟨t_least_price K R_need_all R_prices_in, ?_, sp_run h hb⟩
  exact (pss_cons (ps_expr (pe_call G_need_all (hr.mono (by first | decide | exact Nat.le_refl _)) (by rfl) D_need_all.mg D_need_all.kp D_need_all.b .nil pass0 (pa_cons (pv 0) (pa_cons (pv 1) (pa_cons (pv 2) pa_nil)))))
      (pss_one (ps_ret (pe_ix ix_seq (pe_ix ix_seq (pe_call G_prices_in (hr.mono (by first | decide | exact Nat.le_refl _)) (by rfl) D_prices_in.mg D_prices_in.kp D_prices_in.b .nil pass0 (pa_cons (pv 0) (pa_cons (pv 1) (pa_cons (pv 2) pa_nil)))) pe_int (fun _ _ => rfl)) pe_int (fun _ _ => rfl)))))
theorem ok_best_pieces {R : Pr} {f : Addr} {fd : FuncData} (T : Txt mg) (F : Fun K "best_pieces" "best_pieces" s_best_pieces f fd) {R_need_all : Pr} {f_need_all : Addr} {fd_need_all : FuncData} (D_need_all : Df K mg "need_all" s_need_all ["known", "octets", "frame"] f_need_all fd_need_all) (G_need_all : FnOk P w K mg base CX0 5 f_need_all fd_need_all ["known", "octets", "frame"] (spX R_need_all)) {R_prices_in : Pr} {f_prices_in : Addr} {fd_prices_in : FuncData} (D_prices_in : Df K mg "prices_in" s_prices_in ["known", "octets", "frame"] f_prices_in fd_prices_in) (G_prices_in : FnOk P w K mg base CX0 2 f_prices_in fd_prices_in ["known", "octets", "frame"] (spX R_prices_in))
    (hl : ∀ es O Z, R es O Z → es.length = 3) (hb : ∀ es O Z, R es O Z → SX (t_best_pieces K R_need_all R_prices_in) (es ++ List.replicate (N_best_pieces.length - es.length) .un) O (Ret Z)) :
    FnOk P w K mg base CX0 6 f fd ["known", "octets", "frame"] (spX R) := by
  have sc := sc_best_pieces
  refine F.ok sc (fun vs H Q E h => sp_len h hl) (fun cdv A outer s H vs Q E hr h => ?_)
  have hu := hr.units
  have hv := hv_of hr
  have hw := hu_of hr
  refine ⟨t_best_pieces K R_need_all R_prices_in, ?_, sp_run h hb⟩
  exact (pss_cons (ps_expr (pe_call G_need_all (hr.mono (by first | decide | exact Nat.le_refl _)) (by rfl) D_need_all.mg D_need_all.kp D_need_all.b .nil pass0 (pa_cons (pv 0) (pa_cons (pv 1) (pa_cons (pv 2) pa_nil)))))
      (pss_cons (ps_asg (pe_tup (pa_cons (pe_call G_prices_in (hr.mono (by first | decide | exact Nat.le_refl _)) (by rfl) D_prices_in.mg D_prices_in.kp D_prices_in.b .nil pass0 (pa_cons (pv 0) (pa_cons (pv 1) (pa_cons (pv 2) pa_nil)))) (pa_cons pe_int (pa_cons (pe_lst pa_nil) (pa_cons (pe_tup pa_nil) pa_nil))))) (pg_tup (by rfl) (pgs_cons (pg_name (i := 3) sc.nd rfl (Or.inl rfl)) (pgs_cons (pg_name (i := 4) sc.nd rfl (Or.inl rfl)) (pgs_cons (pg_name (i := 5) sc.nd rfl (Or.inl rfl)) (pgs_cons (pg_name (i := 6) sc.nd rfl (Or.inl rfl)) pgs_nil))))))
      (pss_cons (ps_while PassesOwn.never (pt_cmpR op_lt (pv 4) (pe_callB call_lenU (by rfl) T.nlen (by decide +kernel) (pa_cons (pv 1) pa_nil)) (nomark _)) (pss_cons (ps_asg (pe_ix ix_seq (pe_ix ix_seq (pv 3) (pv 4) (fun _ _ => rfl)) pe_int (fun _ _ => rfl)) (pg_tup (by rfl) (pgs_cons (pg_name (i := 7) sc.nd rfl (Or.inl rfl)) (pgs_cons (pg_name (i := 8) sc.nd rfl (Or.inl rfl)) pgs_nil))))
      (pss_cons (ps_if (pt_cmpR op_isU (pv 8) pe_non (nomark _)) (pss_one (ps_set (i := 6) sc.nd rfl (Or.inl rfl) (pe_op op_addU (pv 6) (pe_tup (pa_cons (pe_ix ix_seq (pv 1) (pv 4) (fun _ _ => rfl)) pa_nil))))) (pss_cons (ps_aug (i := 5) sc.nd rfl (Or.inl rfl) (pe_op op_addU (pe_ifExp (pt_cmpR (op_neD hu) (pv 6) (pe_tup pa_nil) (nomark _)) (pe_lst (pa_cons (pe_tup (pa_cons pe_str (pa_cons (pv 6) pa_nil))) pa_nil)) (pe_lst pa_nil)) (pe_lst (pa_cons (pe_tup (pa_cons pe_str (pa_cons (pv 8) pa_nil))) pa_nil))) ip_ext)
      (pss_one (ps_set (i := 6) sc.nd rfl (Or.inl rfl) (pe_tup pa_nil)))))
      (pss_one (ps_set (i := 4) sc.nd rfl (Or.inl rfl) (pv 7))))))
      (pss_one (ps_ret (pe_callTy call_tupOf (by rfl) T.ntuple (by decide +kernel) (pa_cons (pe_op op_addU (pv 5) (pe_ifExp (pt_cmpR (op_neD hu) (pv 6) (pe_tup pa_nil) (nomark _)) (pe_lst (pa_cons (pe_tup (pa_cons pe_str (pa_cons (pv 6) pa_nil))) pa_nil)) (pe_lst pa_nil))) pa_nil)))))))
theorem ok__law_cup {S : Sp} {f : Addr} {fd : FuncData} (T : Txt mg) (F : Fun K "_law_cup" "_law_cup" s__law_cup f fd)
    (hl : ∀ vs H Q E, S vs H Q E → vs.length = 1) (hb : ∀ vs H Q E, S vs H Q E → (t__law_cup K) { nx := fun _ H' => Q .non H', rt := Q } (L2.start N__law_cup vs) H) :
    FnOk P w K mg base CX0 1 f fd ["script"] S := by
  have sc := sc__law_cup
  refine F.ok sc (fun vs H Q E h => hl vs H Q E h) (fun cdv A outer s H vs Q E hr h => ?_)
  have hu := hr.units
  have hv := hv_of hr
  have hw := hu_of hr
  refine ⟨t__law_cup K, ?_, hb vs H Q E h⟩
  exact (pss_cons (ps_set (i := 1) sc.nd rfl (Or.inl rfl) (pe_callB call_abs' (by rfl) T.nabs (by decide +kernel) (pa_cons (pe_ix ix_seq (pe_op op_addU (pe_callTy call_lstOf (by rfl) T.nlist (by decide +kernel) (pa_cons (pv 0) pa_nil)) (pe_lst (pa_cons pe_int pa_nil))) pe_int (fun _ _ => rfl)) pa_nil)))
      (pss_one (ps_ret (pe_lst (pa_cons (pe_ifExp (pt_cmpR op_ge (pv 1) (pe_op op_pow pe_int pe_int) (nomark _)) (pe_op op_fdiv (pv 1) pe_int) pe_int) (pa_cons (pe_op op_addU (pe_op op_mod (pe_callTy call_intOf (by rfl) T.nint (by decide +kernel) (pa_cons (pe_op op_addU (pe_op op_mulU (pv 1) pe_int) pe_int) pa_nil)) pe_int) pe_int) pa_nil))))))
theorem ok__law_roll {R : Pr} {f : Addr} {fd : FuncData} (T : Txt mg) (F : Fun K "_law_roll" "_law_roll" s__law_roll f fd)
    (hl : ∀ es O Z, R es O Z → es.length = 2) (hb : ∀ es O Z, R es O Z → SX (t__law_roll K) (es ++ List.replicate (N__law_roll.length - es.length) .un) O (Ret Z)) :
    FnOk P w K mg base CX0 1 f fd ["cup", "many"] (spX R) := by
  have sc := sc__law_roll
  refine F.ok sc (fun vs H Q E h => sp_len h hl) (fun cdv A outer s H vs Q E hr h => ?_)
  have hu := hr.units
  have hv := hv_of hr
  have hw := hu_of hr
  refine ⟨t__law_roll K, ?_, sp_run h hb⟩
  exact (pss_cons (ps_if (pt_cmpR op_gt (pe_ix ix_seq (pv 0) pe_int (fun _ _ => rfl)) pe_int (nomark _)) (pss_cons (ps_set (i := 2) sc.nd rfl (Or.inl rfl) (pe_op op_mod (pe_callTy call_intOf (by rfl) T.nint (by decide +kernel) (pa_cons (pe_ix ix_seq (pv 0) pe_int (fun _ _ => rfl)) pa_nil)) (pv 1)))
      (pss_cons (ps_asg (pe_op op_fdiv (pe_ix ix_seq (pv 0) pe_int (fun _ _ => rfl)) (pv 1)) (pg_sub (pv 0) pe_int set_list))
      (pss_one (ps_ret (pv 2))))) pss_nil)
      (pss_cons (ps_asg (pe_op op_mod (pe_callTy call_intOf (by rfl) T.nint (by decide +kernel) (pa_cons (pe_op op_addU (pe_op op_mulU (pe_ix ix_seq (pv 0) pe_int (fun _ _ => rfl)) pe_int) pe_int) pa_nil)) pe_int) (pg_sub (pv 0) pe_int set_list))
      (pss_cons (ps_set (i := 3) sc.nd rfl (Or.inl rfl) (pe_op op_mod (pe_callTy call_intOf (by rfl) T.nint (by decide +kernel) (pa_cons (pe_op op_mulU (pe_ix ix_seq (pv 0) pe_int (fun _ _ => rfl)) (pe_op op_addU (pe_ix ix_seq (pv 0) pe_int (fun _ _ => rfl)) pe_int)) pa_nil)) pe_int))
      (pss_one (ps_ret (pe_op op_mod (pe_callTy call_intOf (by rfl) T.nint (by decide +kernel) (pa_cons (pe_op op_fdiv (pv 3) pe_int) pa_nil)) (pv 1)))))))
theorem ok__law_same {R : Pr} {k : Nat} {f : Addr} {fd : FuncData} (T : Txt mg) (F : Fun K "_law_same" "_law_same" s__law_same f fd) {R__law_same : Pr} {f__law_same : Addr} {fd__law_same : FuncData} (D__law_same : Df K mg "_law_same" s__law_same ["told", "due"] f__law_same fd__law_same) (G__law_same : FnOk P w K mg base CX0 k f__law_same fd__law_same ["told", "due"] (spX R__law_same))
    (hl : ∀ es O Z, R es O Z → es.length = 2) (hb : ∀ es O Z, R es O Z → SX (t__law_same K R__law_same) (es ++ List.replicate (N__law_same.length - es.length) .un) O (Ret Z)) :
    FnOk P w K mg base CX0 (k + 1) f fd ["told", "due"] (spX R) := by
  have sc := sc__law_same
  refine F.ok sc (fun vs H Q E h => sp_len h hl) (fun cdv A outer s H vs Q E hr h => ?_)
  have hu := hr.units
  have hv := hv_of hr
  have hw := hu_of hr
  refine ⟨t__law_same K R__law_same, ?_, sp_run h hb⟩
  exact (pss_cons (ps_if (pt_val (pe_callB call_isi (by rfl) T.nisinstance (by decide +kernel) (pa_cons (pv 1) (pa_cons (pe_bltn (v := .ty "tuple") (by rfl) T.ntuple (by decide +kernel) rfl) pa_nil)))) (pss_cons (ps_if (PW.pt (pw_or (pt_not (pt_val (pe_callB call_isi (by rfl) T.nisinstance (by decide +kernel) (pa_cons (pv 0) (pa_cons (pe_bltn (v := .ty "tuple") (by rfl) T.ntuple (by decide +kernel) rfl) pa_nil))))) (pw_or1 (pt_cmpR (op_neD hu) (pe_callB call_lenU (by rfl) T.nlen (by decide +kernel) (pa_cons (pv 0) pa_nil)) (pe_callB call_lenU (by rfl) T.nlen (by decide +kernel) (pa_cons (pv 1) pa_nil)) (nomark _))))) (pss_one (ps_ret pe_bl)) pss_nil)
      (pss_one (ps_ret (pe_callB (cr_all rfl) (by rfl) T.nall (by decide +kernel) (pa_cons (pe_lc (own := [("at", 2)]) (g := (gName 2)) (by rfl) sc.nd (pi_range1 (by rfl) T.nrange (pa_cons (pe_callB call_lenU (by rfl) T.nlen (by decide +kernel) (pa_cons (pv 1) pa_nil)) pa_nil)) (blkOk_by (own := [("at", 2)]) (N := N__law_same) (sc := defScope s__law_same) (by decide +kernel)) (fun _ _ _ _ _ => (pg_name (i := 2) sc.nd rfl (Or.inl rfl))) (fun _ _ _ _ _ => pts_nil) (fun _ _ _ _ _ => (pe_call G__law_same (hr.mono (by first | decide | exact Nat.le_refl _)) (by rfl) D__law_same.mg D__law_same.kp D__law_same.b .nil pass0 (pa_cons (pe_ix ix_seq (pv 0) (pv 2) (fun _ _ => rfl)) (pa_cons (pe_ix ix_seq (pv 1) (pv 2) (fun _ _ => rfl)) pa_nil))))) pa_nil))))) pss_nil)
      (pss_cons (ps_if (pt_cmpR op_isU (pv 1) pe_non (nomark _)) (pss_one (ps_ret (pe_cmpR op_isU (pv 0) pe_non (nomark _)))) pss_nil)
      (pss_cons (ps_if (pt_val (pe_callB call_isi (by rfl) T.nisinstance (by decide +kernel) (pa_cons (pv 1) (pa_cons (pe_bltn (v := .ty "bool") (by rfl) T.nbool (by decide +kernel) rfl) pa_nil)))) (pss_one (ps_ret (pe_ifExp (pt_val (pv 1)) (pe_cmpR op_isU (pv 0) pe_bl (nomark _)) (pe_cmpR op_isU (pv 0) pe_bl (nomark _))))) pss_nil)
      (pss_cons (ps_if (pt_val (pe_callB call_isi (by rfl) T.nisinstance (by decide +kernel) (pa_cons (pv 1) (pa_cons (pe_bltn (v := .ty "int") (by rfl) T.nint (by decide +kernel) rfl) pa_nil)))) (pss_one (ps_ret (pe_and (pe_callB call_isi (by rfl) T.nisinstance (by decide +kernel) (pa_cons (pv 0) (pa_cons (pe_bltn (v := .ty "int") (by rfl) T.nint (by decide +kernel) rfl) pa_nil))) (pe_and (pe_not (pe_callB call_isi (by rfl) T.nisinstance (by decide +kernel) (pa_cons (pv 0) (pa_cons (pe_bltn (v := .ty "bool") (by rfl) T.nbool (by decide +kernel) rfl) pa_nil)))) (pe_one (pe_cmpR (op_eqD hu) (pe_callTy call_intOf (by rfl) T.nint (by decide +kernel) (pa_cons (pv 0) pa_nil)) (pv 1) (nomark _))))))) pss_nil)
      (pss_one (ps_ret (pe_and (pe_callB call_isi (by rfl) T.nisinstance (by decide +kernel) (pa_cons (pv 0) (pa_cons (pe_bltn (v := .ty "str") (by rfl) T.nstr (by decide +kernel) rfl) pa_nil))) (pe_one (pe_cmpR (op_eqD hu) (pe_callTy call_strU (by rfl) T.nstr (by decide +kernel) (pa_cons (pv 0) pa_nil)) (pv 1) (nomark _))))))))))
theorem ok__law_some {R : Pr} {f : Addr} {fd : FuncData} (T : Txt mg) (F : Fun K "_law_some" "_law_some" s__law_some f fd) {R__law_roll : Pr} {f__law_roll : Addr} {fd__law_roll : FuncData} (D__law_roll : Df K mg "_law_roll" s__law_roll ["cup", "many"] f__law_roll fd__law_roll) (G__law_roll : FnOk P w K mg base CX0 1 f__law_roll fd__law_roll ["cup", "many"] (spX R__law_roll))
    (hl : ∀ es O Z, R es O Z → es.length = 2) (hb : ∀ es O Z, R es O Z → SX (t__law_some K R__law_roll) (es ++ List.replicate (N__law_some.length - es.length) .un) O (Ret Z)) :
    FnOk P w K mg base CX0 2 f fd ["cup", "things"] (spX R) := by
  have sc := sc__law_some
  refine F.ok sc (fun vs H Q E h => sp_len h hl) (fun cdv A outer s H vs Q E hr h => ?_)
  have hu := hr.units
  have hv := hv_of hr
  have hw := hu_of hr
  refine ⟨t__law_some K R__law_roll, ?_, sp_run h hb⟩
  exact (pss_one (ps_ret (pe_ix ix_seq (pv 1) (pe_call G__law_roll (hr.mono (by first | decide | exact Nat.le_refl _)) (by rfl) D__law_roll.mg D__law_roll.kp D__law_roll.b .nil pass0 (pa_cons (pv 0) (pa_cons (pe_callB call_lenU (by rfl) T.nlen (by decide +kernel) (pa_cons (pv 1) pa_nil)) pa_nil))) (fun _ _ => rfl))))
theorem ok__law_file {R : Pr} {f : Addr} {fd : FuncData} (T : Txt mg) (F : Fun K "_law_file" "_law_file" s__law_file f fd) {R__law_roll : Pr} {f__law_roll : Addr} {fd__law_roll : FuncData} (D__law_roll : Df K mg "_law_roll" s__law_roll ["cup", "many"] f__law_roll fd__law_roll) (G__law_roll : FnOk P w K mg base CX0 1 f__law_roll fd__law_roll ["cup", "many"] (spX R__law_roll)) {R__law_some : Pr} {f__law_some : Addr} {fd__law_some : FuncData} (D__law_some : Df K mg "_law_some" s__law_some ["cup", "things"] f__law_some fd__law_some) (G__law_some : FnOk P w K mg base CX0 2 f__law_some fd__law_some ["cup", "things"] (spX R__law_some))
    (hl : ∀ es O Z, R es O Z → es.length = 2) (hb : ∀ es O Z, R es O Z → SX (t__law_file K R__law_roll R__law_some) (es ++ List.replicate (N__law_file.length - es.length) .un) O (Ret Z)) :
    FnOk P w K mg base CX0 3 f fd ["cup", "most"] (spX R) := by
  have sc := sc__law_file
  refine F.ok sc (fun vs H Q E h => sp_len h hl) (fun cdv A outer s H vs Q E hr h => ?_)
  have hu := hr.units
  have hv := hv_of hr
  have hw := hu_of hr
  refine ⟨t__law_file K R__law_roll R__law_some, ?_, sp_run h hb⟩
  exact (pss_cons (ps_set (i := 2) sc.nd rfl (Or.inr rfl) (pe_call G__law_roll (hr.mono (by first | decide | exact Nat.le_refl _)) (by rfl) D__law_roll.mg D__law_roll.kp D__law_roll.b .nil pass0 (pa_cons (pv 0) (pa_cons pe_int pa_nil))))
      (pss_one (ps_ret (pe_callTy call_tupOf (by rfl) T.ntuple (by decide +kernel) (pa_cons (pe_lc (own := [("octet", 3)]) (g := (gName 3)) (by rfl) sc.nd (pi_range1 (by rfl) T.nrange (pa_cons (pe_call G__law_roll (hr.mono (by first | decide | exact Nat.le_refl _)) (by rfl) D__law_roll.mg D__law_roll.kp D__law_roll.b .nil pass0 (pa_cons (pv 0) (pa_cons (pe_op op_addU (pv 1) pe_int) pa_nil))) pa_nil)) (blkOk_by (own := [("octet", 3)]) (N := N__law_file) (sc := defScope s__law_file) (by decide +kernel)) (fun _ _ _ _ _ => (pg_name (i := 3) sc.nd rfl (Or.inl rfl))) (fun _ _ _ _ _ => pts_nil) (fun _ _ _ _ _ => (pe_call G__law_some (hr.mono (by first | decide | exact Nat.le_refl _)) (by rfl) D__law_some.mg D__law_some.kp D__law_some.b .nil pass0 (pa_cons (pv 0) (pa_cons (pe_lst (pa_cons (pv 2) (pa_cons (pv 2) (pa_cons (pe_call G__law_roll (hr.mono (by first | decide | exact Nat.le_refl _)) (by rfl) D__law_roll.mg D__law_roll.kp D__law_roll.b .nil pass0 (pa_cons (pv 0) (pa_cons pe_int pa_nil))) pa_nil)))) pa_nil))))) pa_nil)))))
theorem ok__law_octets {R : Pr} {f : Addr} {fd : FuncData} (T : Txt mg) (F : Fun K "_law_octets" "_law_octets" s__law_octets f fd) {R__law_roll : Pr} {f__law_roll : Addr} {fd__law_roll : FuncData} (D__law_roll : Df K mg "_law_roll" s__law_roll ["cup", "many"] f__law_roll fd__law_roll) (G__law_roll : FnOk P w K mg base CX0 1 f__law_roll fd__law_roll ["cup", "many"] (spX R__law_roll)) {R__law_file : Pr} {f__law_file : Addr} {fd__law_file : FuncData} (D__law_file : Df K mg "_law_file" s__law_file ["cup", "most"] f__law_file fd__law_file) (G__law_file : FnOk P w K mg base CX0 3 f__law_file fd__law_file ["cup", "most"] (spX R__law_file)) {R__law_some : Pr} {f__law_some : Addr} {fd__law_some : FuncData} (D__law_some : Df K mg "_law_some" s__law_some ["cup", "things"] f__law_some fd__law_some) (G__law_some : FnOk P w K mg base CX0 2 f__law_some fd__law_some ["cup", "things"] (spX R__law_some))
    (hl : ∀ es O Z, R es O Z → es.length = 2) (hb : ∀ es O Z, R es O Z → SX (t__law_octets K R__law_roll R__law_file R__law_some) (es ++ List.replicate (N__law_octets.length - es.length) .un) O (Ret Z)) :
    FnOk P w K mg base CX0 4 f fd ["cup", "most"] (spX R) := by
  have sc := sc__law_octets
  refine F.ok sc (fun vs H Q E h => sp_len h hl) (fun cdv A outer s H vs Q E hr h => ?_)
  have hu := hr.units
  have hv := hv_of hr
  have hw := hu_of hr
  refine ⟨t__law_octets K R__law_roll R__law_file R__law_some, ?_, sp_run h hb⟩
  exact (pss_cons (ps_set (i := 2) sc.nd rfl (Or.inl rfl) (pe_tup pa_nil))
      (pss_cons (ps_for PassesOwn.never rfl (pi_range1 (by rfl) T.nrange (pa_cons (pe_call G__law_roll (hr.mono (by first | decide | exact Nat.le_refl _)) (by rfl) D__law_roll.mg D__law_roll.kp D__law_roll.b .nil pass0 (pa_cons (pv 0) (pa_cons pe_int pa_nil))) pa_nil)) (pg_name (i := 3) sc.nd rfl (Or.inl rfl)) (pss_one (ps_set (i := 2) sc.nd rfl (Or.inl rfl) (pe_op op_addU (pv 2) (pe_call G__law_some (hr.mono (by first | decide | exact Nat.le_refl _)) (by rfl) D__law_some.mg D__law_some.kp D__law_some.b .nil pass0 (pa_cons (pv 0) (pa_cons (pe_lst (pa_cons (pe_call G__law_file (hr.mono (by first | decide | exact Nat.le_refl _)) (by rfl) D__law_file.mg D__law_file.kp D__law_file.b .nil pass0 (pa_cons (pv 0) (pa_cons (pv 1) pa_nil))) (pa_cons (pe_op op_mulU (pe_call G__law_file (hr.mono (by first | decide | exact Nat.le_refl _)) (by rfl) D__law_file.mg D__law_file.kp D__law_file.b .nil pass0 (pa_cons (pv 0) (pa_cons pe_int pa_nil))) pe_int) (pa_cons (pe_slice sl_U (pv 2) (po_some (pe_un un_neg pe_int)) po_none) (pa_cons (pe_callTy call_tupOf (by rfl) T.ntuple (by decide +kernel) (pa_cons (pe_lc (own := [("at", 4)]) (g := (gName 4)) (by rfl) sc.nd (pi_range1 (by rfl) T.nrange (pa_cons (pe_op op_fdiv (pv 1) pe_int) pa_nil)) (blkOk_by (own := [("at", 4)]) (N := N__law_octets) (sc := defScope s__law_octets) (by decide +kernel)) (fun _ _ _ _ _ => (pg_name (i := 4) sc.nd rfl (Or.inl rfl))) (fun _ _ _ _ _ => pts_nil) (fun _ _ _ _ _ => (pe_call G__law_roll (hr.mono (by first | decide | exact Nat.le_refl _)) (by rfl) D__law_roll.mg D__law_roll.kp D__law_roll.b .nil pass0 (pa_cons (pv 0) (pa_cons pe_int pa_nil))))) pa_nil)) pa_nil))))) pa_nil)))))))
      (pss_one (ps_ret (pe_slice sl_U (pv 2) po_none (po_some (pe_op op_mulU pe_int (pv 1))))))))
theorem ok__law_known {R : Pr} {f : Addr} {fd : FuncData} (T : Txt mg) (F : Fun K "_law_known" "_law_known" s__law_known f fd) {R__law_roll : Pr} {f__law_roll : Addr} {fd__law_roll : FuncData} (D__law_roll : Df K mg "_law_roll" s__law_roll ["cup", "many"] f__law_roll fd__law_roll) (G__law_roll : FnOk P w K mg base CX0 1 f__law_roll fd__law_roll ["cup", "many"] (spX R__law_roll)) {R__law_file : Pr} {f__law_file : Addr} {fd__law_file : FuncData} (D__law_file : Df K mg "_law_file" s__law_file ["cup", "most"] f__law_file fd__law_file) (G__law_file : FnOk P w K mg base CX0 3 f__law_file fd__law_file ["cup", "most"] (spX R__law_file)) {R__law_some : Pr} {f__law_some : Addr} {fd__law_some : FuncData} (D__law_some : Df K mg "_law_some" s__law_some ["cup", "things"] f__law_some fd__law_some) (G__law_some : FnOk P w K mg base CX0 2 f__law_some fd__law_some ["cup", "things"] (spX R__law_some))
    (hl : ∀ es O Z, R es O Z → es.length = 2) (hb : ∀ es O Z, R es O Z → SX (t__law_known K R__law_roll R__law_file R__law_some) (es ++ List.replicate (N__law_known.length - es.length) .un) O (Ret Z)) :
    FnOk P w K mg base CX0 4 f fd ["cup", "octets"] (spX R) := by
  have sc := sc__law_known
  refine F.ok sc (fun vs H Q E h => sp_len h hl) (fun cdv A outer s H vs Q E hr h => ?_)
  have hu := hr.units
  have hv := hv_of hr
  have hw := hu_of hr
  refine ⟨t__law_known K R__law_roll R__law_file R__law_some, ?_, sp_run h hb⟩
  exact (pss_cons (ps_set (i := 2) sc.nd rfl (Or.inl rfl) pe_dnewT)
      (pss_cons (ps_for PassesOwn.never rfl (pi_range1 (by rfl) T.nrange (pa_cons (pe_call G__law_roll (hr.mono (by first | decide | exact Nat.le_refl _)) (by rfl) D__law_roll.mg D__law_roll.kp D__law_roll.b .nil pass0 (pa_cons (pv 0) (pa_cons pe_int pa_nil))) pa_nil)) (pg_name (i := 3) sc.nd rfl (Or.inl rfl)) (pss_cons (ps_set (i := 4) sc.nd rfl (Or.inl rfl) (pe_call G__law_roll (hr.mono (by first | decide | exact Nat.le_refl _)) (by rfl) D__law_roll.mg D__law_roll.kp D__law_roll.b .nil pass0 (pa_cons (pv 0) (pa_cons (pe_op op_addU (pe_callB call_lenU (by rfl) T.nlen (by decide +kernel) (pa_cons (pv 1) pa_nil)) pe_int) pa_nil))))
      (pss_cons (ps_set (i := 5) sc.nd rfl (Or.inl rfl) (pe_call G__law_some (hr.mono (by first | decide | exact Nat.le_refl _)) (by rfl) D__law_some.mg D__law_some.kp D__law_some.b .nil pass0 (pa_cons (pv 0) (pa_cons (pe_lst (pa_cons (pe_slice sl_U (pv 1) (po_some (pv 4)) (po_some (pe_op op_addU (pe_op op_addU (pv 4) pe_int) (pe_call G__law_roll (hr.mono (by first | decide | exact Nat.le_refl _)) (by rfl) D__law_roll.mg D__law_roll.kp D__law_roll.b .nil pass0 (pa_cons (pv 0) (pa_cons pe_int pa_nil)))))) (pa_cons (pe_call G__law_file (hr.mono (by first | decide | exact Nat.le_refl _)) (by rfl) D__law_file.mg D__law_file.kp D__law_file.b .nil pass0 (pa_cons (pv 0) (pa_cons pe_int pa_nil))) pa_nil))) pa_nil))))
      (pss_one (ps_expr (pe_bm PySem.F.plainAttrs_dict PySem.F.slot_dict_update PySem.F.type_dict_update (mt_updT hv) (pv 2) (pa_cons (pe_ifExp (pt_cmpR (op_neD hu) (pv 5) (pe_tup pa_nil) (nomark _)) (pe_dispT hv (pv 5) pe_int) pe_dnewT) pa_nil)))))))
      (pss_one (ps_ret (pe_callTy call_tupOf (by rfl) T.ntuple (by decide +kernel) (pa_cons (pe_callTy (call_listDT rfl) (by rfl) T.nlist (by decide +kernel) (pa_cons (pv 2) pa_nil)) pa_nil))))))
theorem ok__law_steps {R : Pr} {f : Addr} {fd : FuncData} (T : Txt mg) (F : Fun K "_law_steps" "_law_steps" s__law_steps f fd)
    (hl : ∀ es O Z, R es O Z → es.length = 4) (hb : ∀ es O Z, R es O Z → SX (t__law_steps K) (es ++ List.replicate (N__law_steps.length - es.length) .un) O (Ret Z)) :
    FnOk P w K mg base CX0 1 f fd ["known", "octets", "at", "frame"] (spX R) := by
  have sc := sc__law_steps
  refine F.ok sc (fun vs H Q E h => sp_len h hl) (fun cdv A outer s H vs Q E hr h => ?_)
  have hu := hr.units
  have hv := hv_of hr
  have hw := hu_of hr
  refine ⟨t__law_steps K, ?_, sp_run h hb⟩
  exact (pss_one (ps_ret (pe_op op_addU (pe_lst (pa_cons (pe_tup (pa_cons pe_int (pa_cons (pe_op op_addU (pv 2) pe_int) pa_nil))) pa_nil)) (pe_lc (own := [("chunk", 4)]) (g := (gName 4)) (by rfl) sc.nd (pi_tup (pv 0)) (blkOk_by (own := [("chunk", 4)]) (N := N__law_steps) (sc := defScope s__law_steps) (by decide +kernel)) (fun _ _ _ _ _ => (pg_name (i := 4) sc.nd rfl (Or.inl rfl))) (fun _ _ _ _ _ => (pts_one (pt_cmpR (op_eqD hu) (pe_slice sl_U (pv 1) (po_some (pv 2)) (po_some (pe_op op_addU (pv 2) (pe_callB call_lenU (by rfl) T.nlen (by decide +kernel) (pa_cons (pv 4) pa_nil))))) (pv 4) (nomark _)))) (fun _ _ _ _ _ => (pe_tup (pa_cons (pv 3) (pa_cons (pe_op op_addU (pv 2) (pe_callB call_lenU (by rfl) T.nlen (by decide +kernel) (pa_cons (pv 4) pa_nil))) pa_nil))))))))
theorem ok__law_least {R : Pr} {f : Addr} {fd : FuncData} (T : Txt mg) (F : Fun K "_law_least" "_law_least" s__law_least f fd) {R__law_steps : Pr} {f__law_steps : Addr} {fd__law_steps : FuncData} (D__law_steps : Df K mg "_law_steps" s__law_steps ["known", "octets", "at", "frame"] f__law_steps fd__law_steps) (G__law_steps : FnOk P w K mg base CX0 1 f__law_steps fd__law_steps ["known", "octets", "at", "frame"] (spX R__law_steps))
    (hl : ∀ es O Z, R es O Z → es.length = 3) (hb : ∀ es O Z, R es O Z → SX (t__law_least K R__law_steps) (es ++ List.replicate (N__law_least.length - es.length) .un) O (Ret Z)) :
    FnOk P w K mg base CX0 2 f fd ["known", "octets", "frame"] (spX R) := by
  have sc := sc__law_least
  refine F.ok sc (fun vs H Q E h => sp_len h hl) (fun cdv A outer s H vs Q E hr h => ?_)
  have hu := hr.units
  have hv := hv_of hr
  have hw := hu_of hr
  refine ⟨t__law_least K R__law_steps, ?_, sp_run h hb⟩
  exact (pss_cons (ps_set (i := 3) sc.nd rfl (Or.inr rfl) (pe_disp (pps_cons (pe_callB call_lenU (by rfl) T.nlen (by decide +kernel) (pa_cons (pv 1) pa_nil)) pe_int pps_nil) rfl rfl (by simp) (by decide)))
      (pss_cons (ps_for PassesOwn.never rfl (pi_range1 (by rfl) T.nrange (pa_cons (pe_callB call_lenU (by rfl) T.nlen (by decide +kernel) (pa_cons (pv 1) pa_nil)) pa_nil)) (pg_name (i := 4) sc.nd rfl (Or.inl rfl)) (pss_cons (ps_set (i := 5) sc.nd rfl (Or.inl rfl) (pe_op op_sub (pe_op op_sub (pe_callB call_lenU (by rfl) T.nlen (by decide +kernel) (pa_cons (pv 1) pa_nil)) pe_int) (pv 4)))
      (pss_one (ps_dput hw (pv 3) (pv 5) (pe_callB (cr_min rfl) (by rfl) T.nmin (by decide +kernel) (pa_cons (pe_lc (own := [("price", 6), ("there", 7)]) (g := (gTup K 2 (gCons (gName 6) (gCons (gName 7) gNil)))) (by rfl) sc.nd (pi_list (pe_call G__law_steps (hr.mono (by first | decide | exact Nat.le_refl _)) (by rfl) D__law_steps.mg D__law_steps.kp D__law_steps.b .nil pass0 (pa_cons (pv 0) (pa_cons (pv 1) (pa_cons (pv 5) (pa_cons (pv 2) pa_nil)))))) (blkOk_by (own := [("price", 6), ("there", 7)]) (N := N__law_least) (sc := defScope s__law_least) (by decide +kernel)) (fun _ _ _ _ _ => (pg_tup (by rfl) (pgs_cons (pg_name (i := 6) sc.nd rfl (Or.inl rfl)) (pgs_cons (pg_name (i := 7) sc.nd rfl (Or.inl rfl)) pgs_nil)))) (fun _ _ _ _ _ => pts_nil) (fun _ _ _ _ _ => (pe_op op_addU (pv 6) (pe_dget hw (pv 3) (pv 7) (fun _ _ => rfl))))) pa_nil)) (by rfl)))))
      (pss_one (ps_ret (pv 3)))))
theorem ok__law_told {R : Pr} {f : Addr} {fd : FuncData} (T : Txt mg) (F : Fun K "_law_told" "_law_told" s__law_told f fd)
    (hl : ∀ es O Z, R es O Z → es.length = 2) (hb : ∀ es O Z, R es O Z → SX (t__law_told K) (es ++ List.replicate (N__law_told.length - es.length) .un) O (Ret Z)) :
    FnOk P w K mg base CX0 1 f fd ["known", "pieces"] (spX R) := by
  have sc := sc__law_told
  refine F.ok sc (fun vs H Q E h => sp_len h hl) (fun cdv A outer s H vs Q E hr h => ?_)
  have hu := hr.units
  have hv := hv_of hr
  have hw := hu_of hr
  refine ⟨t__law_told K, ?_, sp_run h hb⟩
  exact (pss_cons (ps_set (i := 2) sc.nd rfl (Or.inl rfl) (pe_tup pa_nil))
      (pss_cons (ps_for PassesOwn.never rfl (pi_tup (pv 1)) (pg_tup (by rfl) (pgs_cons (pg_name (i := 3) sc.nd rfl (Or.inl rfl)) (pgs_cons (pg_name (i := 4) sc.nd rfl (Or.inl rfl)) pgs_nil))) (pss_one (ps_set (i := 2) sc.nd rfl (Or.inl rfl) (pe_op op_addU (pv 2) (pe_ifExp (pt_cmpR (op_eqD hu) (pv 3) pe_str (nomark _)) (pe_ix ix_seq (pv 0) (pv 4) (fun _ _ => rfl)) (pv 4))))))
      (pss_one (ps_ret (pv 2)))))
theorem ok__law_every {R : Pr} {f : Addr} {fd : FuncData} (T : Txt mg) (F : Fun K "_law_every" "_law_every" s__law_every f fd)
    (hl : ∀ es O Z, R es O Z → es.length = 2) (hb : ∀ es O Z, R es O Z → SX (t__law_every K) (es ++ List.replicate (N__law_every.length - es.length) .un) O (Ret Z)) :
    FnOk P w K mg base CX0 1 f fd ["known", "octets"] (spX R) := by
  have sc := sc__law_every
  refine F.ok sc (fun vs H Q E h => sp_len h hl) (fun cdv A outer s H vs Q E hr h => ?_)
  have hu := hr.units
  have hv := hv_of hr
  have hw := hu_of hr
  refine ⟨t__law_every K, ?_, sp_run h hb⟩
  exact (pss_cons (ps_par (i := 2) (j := 3) (by rfl) sc.nd rfl rfl (by decide) rfl rfl (pa_cons (pe_lst (pa_cons (pe_tup (pa_cons (pe_tup pa_nil) (pa_cons pe_int pa_nil))) pa_nil)) (pa_cons (pe_lst pa_nil) pa_nil)) (by rfl))
      (pss_cons (ps_while PassesOwn.never (pt_cmpR (op_neD hu) (pv 2) (pe_lst pa_nil) (nomark _)) (pss_cons (ps_set (i := 4) sc.nd rfl (Or.inl rfl) (pe_lst pa_nil))
      (pss_cons (ps_for PassesOwn.never rfl (pi_list (pv 2)) (pg_tup (by rfl) (pgs_cons (pg_name (i := 5) sc.nd rfl (Or.inr rfl)) (pgs_cons (pg_name (i := 6) sc.nd rfl (Or.inr rfl)) pgs_nil))) (pss_one (ps_if (pt_cmpR (op_eqD hu) (pv 6) (pe_callB call_lenU (by rfl) T.nlen (by decide +kernel) (pa_cons (pv 1) pa_nil)) (nomark _)) (pss_one (ps_expr (pe_bm PySem.F.plainAttrs_list PySem.F.slot_list_append PySem.F.type_list_append mt_append (pv 3) (pa_cons (pv 5) pa_nil)))) (pss_cons (ps_set (i := 4) sc.nd rfl (Or.inl rfl) (pe_op op_addU (pv 4) (pe_lst (pa_cons (pe_tup (pa_cons (pe_op op_addU (pv 5) (pe_tup (pa_cons pe_non pa_nil))) (pa_cons (pe_op op_addU (pv 6) pe_int) pa_nil))) pa_nil))))
      (pss_one (ps_set (i := 4) sc.nd rfl (Or.inl rfl) (pe_op op_addU (pv 4) (pe_lc (own := [("index", 7)]) (g := (gName 7)) (by rfl) sc.nd (pi_range1 (by rfl) T.nrange (pa_cons (pe_callB call_lenU (by rfl) T.nlen (by decide +kernel) (pa_cons (pv 0) pa_nil)) pa_nil)) (blkOk_by (own := [("index", 7)]) (N := N__law_every) (sc := defScope s__law_every) (by decide +kernel)) (fun _ _ _ _ _ => (pg_name (i := 7) sc.nd rfl (Or.inl rfl))) (fun _ _ _ _ _ => (pts_one (pt_cmpR (op_eqD hu) (pe_slice sl_U (pv 1) (po_some (pv 6)) (po_some (pe_op op_addU (pv 6) (pe_callB call_lenU (by rfl) T.nlen (by decide +kernel) (pa_cons (pe_ix ix_seq (pv 0) (pv 7) (fun _ _ => rfl)) pa_nil))))) (pe_ix ix_seq (pv 0) (pv 7) (fun _ _ => rfl)) (nomark _)))) (fun _ _ _ _ _ => (pe_tup (pa_cons (pe_op op_addU (pv 5) (pe_tup (pa_cons (pv 7) pa_nil))) (pa_cons (pe_op op_addU (pv 6) (pe_callB call_lenU (by rfl) T.nlen (by decide +kernel) (pa_cons (pe_ix ix_seq (pv 0) (pv 7) (fun _ _ => rfl)) pa_nil))) pa_nil))))))))))))
      (pss_one (ps_set (i := 2) sc.nd rfl (Or.inl rfl) (pv 4))))))
      (pss_one (ps_ret (pv 3)))))
theorem ok__law_right {R : Pr} {f : Addr} {fd : FuncData} (T : Txt mg) (F : Fun K "_law_right" "_law_right" s__law_right f fd) {R__law_roll : Pr} {f__law_roll : Addr} {fd__law_roll : FuncData} (D__law_roll : Df K mg "_law_roll" s__law_roll ["cup", "many"] f__law_roll fd__law_roll) (G__law_roll : FnOk P w K mg base CX0 1 f__law_roll fd__law_roll ["cup", "many"] (spX R__law_roll)) {R__law_some : Pr} {f__law_some : Addr} {fd__law_some : FuncData} (D__law_some : Df K mg "_law_some" s__law_some ["cup", "things"] f__law_some fd__law_some) (G__law_some : FnOk P w K mg base CX0 2 f__law_some fd__law_some ["cup", "things"] (spX R__law_some)) {R__law_octets : Pr} {f__law_octets : Addr} {fd__law_octets : FuncData} (D__law_octets : Df K mg "_law_octets" s__law_octets ["cup", "most"] f__law_octets fd__law_octets) (G__law_octets : FnOk P w K mg base CX0 4 f__law_octets fd__law_octets ["cup", "most"] (spX R__law_octets)) {R__law_known : Pr} {f__law_known : Addr} {fd__law_known : FuncData} (D__law_known : Df K mg "_law_known" s__law_known ["cup", "octets"] f__law_known fd__law_known) (G__law_known : FnOk P w K mg base CX0 4 f__law_known fd__law_known ["cup", "octets"] (spX R__law_known)) {R__law_least : Pr} {f__law_least : Addr} {fd__law_least : FuncData} (D__law_least : Df K mg "_law_least" s__law_least ["known", "octets", "frame"] f__law_least fd__law_least) (G__law_least : FnOk P w K mg base CX0 2 f__law_least fd__law_least ["known", "octets", "frame"] (spX R__law_least)) {R_best_pieces : Pr} {f_best_pieces : Addr} {fd_best_pieces : FuncData} (D_best_pieces : Df K mg "best_pieces" s_best_pieces ["known", "octets", "frame"] f_best_pieces fd_best_pieces) (G_best_pieces : FnOk P w K mg base CX0 6 f_best_pieces fd_best_pieces ["known", "octets", "frame"] (spX R_best_pieces)) {R_price_of : Pr} {f_price_of : Addr} {fd_price_of : FuncData} (D_price_of : Df K mg "price_of" s_price_of ["known", "pieces", "frame"] f_price_of fd_price_of) (G_price_of : FnOk P w K mg base CX0 5 f_price_of fd_price_of ["known", "pieces", "frame"] (spX R_price_of)) {R_told_by : Pr} {f_told_by : Addr} {fd_told_by : FuncData} (D_told_by : Df K mg "told_by" s_told_by ["known", "pieces"] f_told_by fd_told_by) (G_told_by : FnOk P w K mg base CX0 5 f_told_by fd_told_by ["known", "pieces"] (spX R_told_by)) {R_least_price : Pr} {f_least_price : Addr} {fd_least_price : FuncData} (D_least_price : Df K mg "least_price" s_least_price ["known", "octets", "frame"] f_least_price fd_least_price) (G_least_price : FnOk P w K mg base CX0 6 f_least_price fd_least_price ["known", "octets", "frame"] (spX R_least_price)) {R__law_same : Pr} {f__law_same : Addr} {fd__law_same : FuncData} (D__law_same : Df K mg "_law_same" s__law_same ["told", "due"] f__law_same fd__law_same) (G__law_same : FnOk P w K mg base CX0 4 f__law_same fd__law_same ["told", "due"] (spX R__law_same)) {R__law_told : Pr} {f__law_told : Addr} {fd__law_told : FuncData} (D__law_told : Df K mg "_law_told" s__law_told ["known", "pieces"] f__law_told fd__law_told) (G__law_told : FnOk P w K mg base CX0 1 f__law_told fd__law_told ["known", "pieces"] (spX R__law_told)) {R__law_every : Pr} {f__law_every : Addr} {fd__law_every : FuncData} (D__law_every : Df K mg "_law_every" s__law_every ["known", "octets"] f__law_every fd__law_every) (G__law_every : FnOk P w K mg base CX0 1 f__law_every fd__law_every ["known", "octets"] (spX R__law_every))
    (hl : ∀ es O Z, R es O Z → es.length = 2) (hb : ∀ es O Z, R es O Z → SX (t__law_right K R__law_roll R__law_some R__law_octets R__law_known R__law_least R_best_pieces R_price_of R_told_by R_least_price R__law_same R__law_told R__law_every) (es ++ List.replicate (N__law_right.length - es.length) .un) O (Ret Z)) :
    FnOk P w K mg base CX0 7 f fd ["cup", "most"] (spX R) := by
  have sc := sc__law_right
  refine F.ok sc (fun vs H Q E h => sp_len h hl) (fun cdv A outer s H vs Q E hr h => ?_)
  have hu := hr.units
  have hv := hv_of hr
  have hw := hu_of hr
  refine ⟨t__law_right K R__law_roll R__law_some R__law_octets R__law_known R__law_least R_best_pieces R_price_of R_told_by R_least_price R__law_same R__law_told R__law_every, ?_, sp_run h hb⟩
  exact (pss_cons (ps_asg (pe_tup (pa_cons (pe_call G__law_octets (hr.mono (by first | decide | exact Nat.le_refl _)) (by rfl) D__law_octets.mg D__law_octets.kp D__law_octets.b .nil pass0 (pa_cons (pv 0) (pa_cons (pv 1) pa_nil))) (pa_cons (pe_call G__law_some (hr.mono (by first | decide | exact Nat.le_refl _)) (by rfl) D__law_some.mg D__law_some.kp D__law_some.b .nil pass0 (pa_cons (pv 0) (pa_cons (pe_lst (pa_cons pe_int (pa_cons pe_int (pa_cons pe_int (pa_cons (pe_call G__law_roll (hr.mono (by first | decide | exact Nat.le_refl _)) (by rfl) D__law_roll.mg D__law_roll.kp D__law_roll.b .nil pass0 (pa_cons (pv 0) (pa_cons pe_int pa_nil))) pa_nil))))) pa_nil))) pa_nil))) (pg_tup (by rfl) (pgs_cons (pg_name (i := 2) sc.nd rfl (Or.inl rfl)) (pgs_cons (pg_name (i := 3) sc.nd rfl (Or.inr rfl)) pgs_nil))))
      (pss_cons (ps_set (i := 4) sc.nd rfl (Or.inl rfl) (pe_call G__law_known (hr.mono (by first | decide | exact Nat.le_refl _)) (by rfl) D__law_known.mg D__law_known.kp D__law_known.b .nil pass0 (pa_cons (pv 0) (pa_cons (pv 2) pa_nil))))
      (pss_cons (ps_set (i := 5) sc.nd rfl (Or.inl rfl) (pe_dget hw (pe_call G__law_least (hr.mono (by first | decide | exact Nat.le_refl _)) (by rfl) D__law_least.mg D__law_least.kp D__law_least.b .nil pass0 (pa_cons (pv 4) (pa_cons (pv 2) (pa_cons (pv 3) pa_nil)))) pe_int (fun _ _ => rfl)))
      (pss_cons (ps_set (i := 6) sc.nd rfl (Or.inr rfl) (pe_call G_best_pieces (hr.mono (by first | decide | exact Nat.le_refl _)) (by rfl) D_best_pieces.mg D_best_pieces.kp D_best_pieces.b .nil pass0 (pa_cons (pv 4) (pa_cons (pv 2) (pa_cons (pv 3) pa_nil)))))
      (pss_cons (ps_if (pt_not (pt_val (pe_call G__law_same (hr.mono (by first | decide | exact Nat.le_refl _)) (by rfl) D__law_same.mg D__law_same.kp D__law_same.b .nil pass0 (pa_cons (pe_tup (pa_cons (pe_call G_least_price (hr.mono (by first | decide | exact Nat.le_refl _)) (by rfl) D_least_price.mg D_least_price.kp D_least_price.b .nil pass0 (pa_cons (pv 4) (pa_cons (pv 2) (pa_cons (pv 3) pa_nil)))) (pa_cons (pe_call G_told_by (hr.mono (by first | decide | exact Nat.le_refl _)) (by rfl) D_told_by.mg D_told_by.kp D_told_by.b .nil pass0 (pa_cons (pv 4) (pa_cons (pv 6) pa_nil))) (pa_cons (pe_call G_price_of (hr.mono (by first | decide | exact Nat.le_refl _)) (by rfl) D_price_of.mg D_price_of.kp D_price_of.b .nil pass0 (pa_cons (pv 4) (pa_cons (pv 6) (pa_cons (pv 3) pa_nil)))) pa_nil)))) (pa_cons (pe_tup (pa_cons (pv 5) (pa_cons (pv 2) (pa_cons (pv 5) pa_nil)))) pa_nil))))) (pss_one (ps_ret pe_bl)) pss_nil)
      (pss_cons (ps_if (PW.pt (pw_or (pt_cmpR (op_neD hu) (pe_call G__law_told (hr.mono (by first | decide | exact Nat.le_refl _)) (by rfl) D__law_told.mg D__law_told.kp D__law_told.b .nil pass0 (pa_cons (pv 4) (pa_cons (pv 6) pa_nil))) (pv 2) (nomark _)) (pw_or1 (pt_cmpR (op_neD hu) (pe_callB (cr_sum rfl) (by rfl) T.nsum (by decide +kernel) (pa_cons (pe_lc (own := [("word", 10), ("own", 11)]) (g := (gTup K 2 (gCons (gName 10) (gCons (gName 11) gNil)))) (by rfl) sc.nd (pi_tup (pv 6)) (blkOk_by (own := [("word", 10), ("own", 11)]) (N := N__law_right) (sc := defScope s__law_right) (by decide +kernel)) (fun _ _ _ _ _ => (pg_tup (by rfl) (pgs_cons (pg_name (i := 10) sc.nd rfl (Or.inl rfl)) (pgs_cons (pg_name (i := 11) sc.nd rfl (Or.inl rfl)) pgs_nil)))) (fun _ _ _ _ _ => pts_nil) (fun _ _ _ _ _ => (pe_ifExp (pt_cmpR (op_eqD hu) (pv 10) pe_str (nomark _)) (pv 3) (pe_callB call_lenU (by rfl) T.nlen (by decide +kernel) (pa_cons (pv 11) pa_nil))))) pa_nil)) (pv 5) (nomark _))))) (pss_one (ps_ret pe_bl)) pss_nil)
      (pss_cons (ps_if (PW.pt (pw_or (pt_cmpR (op_neD hu) (pe_lc (own := [("at", 12)]) (g := (gName 12)) (by rfl) sc.nd (pi_range2 (by rfl) T.nrange (pa_cons pe_int (pa_cons (pe_callB call_lenU (by rfl) T.nlen (by decide +kernel) (pa_cons (pv 6) pa_nil)) pa_nil))) (blkOk_by (own := [("at", 12)]) (N := N__law_right) (sc := defScope s__law_right) (by decide +kernel)) (fun _ _ _ _ _ => (pg_name (i := 12) sc.nd rfl (Or.inl rfl))) (fun _ _ _ _ _ => (pts_one (PW.pt (pw_and (pt_cmpR (op_eqD hu) (pe_ix ix_seq (pe_ix ix_seq (pv 6) (pe_op op_sub (pv 12) pe_int) (fun _ _ => rfl)) pe_int (fun _ _ => rfl)) pe_str (nomark _)) (pw_and1 (pt_cmpR (op_eqD hu) (pe_ix ix_seq (pe_ix ix_seq (pv 6) (pv 12) (fun _ _ => rfl)) pe_int (fun _ _ => rfl)) pe_str (nomark _))))))) (fun _ _ _ _ _ => (pv 12))) (pe_lst pa_nil) (nomark _)) (pw_or1 (pt_cmpR op_gt (pv 5) (pe_callB call_lenU (by rfl) T.nlen (by decide +kernel) (pa_cons (pv 2) pa_nil)) (nomark _))))) (pss_one (ps_ret pe_bl)) pss_nil)
      (pss_cons (ps_set (i := 7) sc.nd rfl (Or.inl rfl) (pe_op op_addU (pv 4) (pe_ifExp (PW.pt (pw_and (pt_cmpR (op_neD hu) (pv 2) (pe_tup pa_nil) (nomark _)) (pw_and1 (pt_cmpR (op_notInU hv) (pe_slice sl_U (pv 2) po_none (po_some pe_int)) (pv 4) rfl)))) (pe_tup (pa_cons (pe_slice sl_U (pv 2) po_none (po_some pe_int)) pa_nil)) (pe_tup pa_nil))))
      (pss_cons (ps_if (pt_cmpR op_gt (pe_call G_least_price (hr.mono (by first | decide | exact Nat.le_refl _)) (by rfl) D_least_price.mg D_least_price.kp D_least_price.b .nil pass0 (pa_cons (pv 7) (pa_cons (pv 2) (pa_cons (pv 3) pa_nil)))) (pv 5) (nomark _)) (pss_one (ps_ret pe_bl)) pss_nil)
      (pss_cons (ps_set (i := 8) sc.nd rfl (Or.inl rfl) (pe_slice sl_U (pv 2) po_none (po_some pe_int)))
      (pss_cons (ps_setLc (i := 9) (own := [("row", 13)]) (g := (gName 13)) (by rfl) sc.nd rfl rfl (sw_true rfl rfl rfl (by decide +kernel)) (pi_list (pe_call G__law_every (hr.mono (by first | decide | exact Nat.le_refl _)) (by rfl) D__law_every.mg D__law_every.kp D__law_every.b .nil pass0 (pa_cons (pv 4) (pa_cons (pv 8) pa_nil)))) (blkOk_by (own := [("row", 13)]) (N := N__law_right) (sc := defScope s__law_right) (by decide +kernel)) (fun _ _ _ _ _ => (pg_name (i := 13) sc.nd rfl (Or.inl rfl))) (fun _ _ _ _ _ => pts_nil) (fun _ _ _ _ _ => (pe_callB (cr_sum rfl) (by rfl) T.nsum (by decide +kernel) (pa_cons (pe_lc (own := [("own", 11)]) (g := (gName 11)) (by rfl) sc.nd (pi_tup (pv 13)) (blkOk_by (own := [("own", 11)]) (by kernel_rfl)) (fun _ _ _ _ _ => (pg_name (i := 11) sc.nd rfl (Or.inl rfl))) (fun _ _ _ _ _ => pts_nil) (fun _ _ _ _ _ => (pe_ifExp (pt_cmpR op_isU (pv 11) pe_non (nomark _)) pe_int (pv 3)))) pa_nil))))
      (pss_one (ps_ret (pe_call G__law_same (hr.mono (by first | decide | exact Nat.le_refl _)) (by rfl) D__law_same.mg D__law_same.kp D__law_same.b .nil pass0 (pa_cons (pe_call G_least_price (hr.mono (by first | decide | exact Nat.le_refl _)) (by rfl) D_least_price.mg D_least_price.kp D_least_price.b .nil pass0 (pa_cons (pv 4) (pa_cons (pv 8) (pa_cons (pv 3) pa_nil)))) (pa_cons (pe_callB (cr_min rfl) (by rfl) T.nmin (by decide +kernel) (pa_cons (pv 9) pa_nil)) pa_nil))))))))))))))))
theorem ok_law {S : Sp} {f : Addr} {fd : FuncData} (T : Txt mg) (F : Fun K "law" "law" s_law f fd) {S__law_cup : Sp} {f__law_cup : Addr} {fd__law_cup : FuncData} (D__law_cup : Df K mg "_law_cup" s__law_cup ["script"] f__law_cup fd__law_cup) (G__law_cup : FnOk P w K mg base CX0 1 f__law_cup fd__law_cup ["script"] S__law_cup) {R__law_right : Pr} {f__law_right : Addr} {fd__law_right : FuncData} (D__law_right : Df K mg "_law_right" s__law_right ["cup", "most"] f__law_right fd__law_right) (G__law_right : FnOk P w K mg base CX0 7 f__law_right fd__law_right ["cup", "most"] (spX R__law_right)) {R_least_price : Pr} {f_least_price : Addr} {fd_least_price : FuncData} (D_least_price : Df K mg "least_price" s_least_price ["known", "octets", "frame"] f_least_price fd_least_price) (G_least_price : FnOk P w K mg base CX0 6 f_least_price fd_least_price ["known", "octets", "frame"] (spX R_least_price)) {R_price_of : Pr} {f_price_of : Addr} {fd_price_of : FuncData} (D_price_of : Df K mg "price_of" s_price_of ["known", "pieces", "frame"] f_price_of fd_price_of) (G_price_of : FnOk P w K mg base CX0 5 f_price_of fd_price_of ["known", "pieces", "frame"] (spX R_price_of)) {R__law_known : Pr} {f__law_known : Addr} {fd__law_known : FuncData} (D__law_known : Df K mg "_law_known" s__law_known ["cup", "octets"] f__law_known fd__law_known) (G__law_known : FnOk P w K mg base CX0 4 f__law_known fd__law_known ["cup", "octets"] (spX R__law_known)) {R__law_roll : Pr} {f__law_roll : Addr} {fd__law_roll : FuncData} (D__law_roll : Df K mg "_law_roll" s__law_roll ["cup", "many"] f__law_roll fd__law_roll) (G__law_roll : FnOk P w K mg base CX0 1 f__law_roll fd__law_roll ["cup", "many"] (spX R__law_roll)) {R__law_told : Pr} {f__law_told : Addr} {fd__law_told : FuncData} (D__law_told : Df K mg "_law_told" s__law_told ["known", "pieces"] f__law_told fd__law_told) (G__law_told : FnOk P w K mg base CX0 1 f__law_told fd__law_told ["known", "pieces"] (spX R__law_told)) {R_told_by : Pr} {f_told_by : Addr} {fd_told_by : FuncData} (D_told_by : Df K mg "told_by" s_told_by ["known", "pieces"] f_told_by fd_told_by) (G_told_by : FnOk P w K mg base CX0 5 f_told_by fd_told_by ["known", "pieces"] (spX R_told_by)) {R__law_same : Pr} {f__law_same : Addr} {fd__law_same : FuncData} (D__law_same : Df K mg "_law_same" s__law_same ["told", "due"] f__law_same fd__law_same) (G__law_same : FnOk P w K mg base CX0 4 f__law_same fd__law_same ["told", "due"] (spX R__law_same))
    (hl : ∀ vs H Q E, S vs H Q E → vs.length = 1) (hb : ∀ vs H Q E, S vs H Q E → (t_law K S__law_cup R__law_right R_least_price R_price_of R__law_known R__law_roll R__law_told R_told_by R__law_same) { nx := fun _ H' => Q .non H', rt := Q } (L2.start N_law vs) H) :
    FnOk P w K mg base CX0 8 f fd ["script"] S := by
  have sc := sc_law
  refine F.ok sc (fun vs H Q E h => hl vs H Q E h) (fun cdv A outer s H vs Q E hr h => ?_)
  have hu := hr.units
  have hv := hv_of hr
  have hw := hu_of hr
  refine ⟨t_law K S__law_cup R__law_right R_least_price R_price_of R__law_known R__law_roll R__law_told R_told_by R__law_same, ?_, hb vs H Q E h⟩
  exact (pss_cons (ps_set (i := 1) sc.nd rfl (Or.inl rfl) (pe_call G__law_cup (hr.mono (by first | decide | exact Nat.le_refl _)) (by rfl) D__law_cup.mg D__law_cup.kp D__law_cup.b .nil pass0 (pa_cons (pv 0) pa_nil)))
      (pss_cons (ps_for PassesOwn.never rfl (pi_tup (pe_tup (pa_cons pe_int (pa_cons pe_int (pa_cons pe_int (pa_cons pe_int pa_nil)))))) (pg_name (i := 2) sc.nd rfl (Or.inl rfl)) (pss_one (ps_if (pt_not (pt_val (pe_call G__law_right (hr.mono (by first | decide | exact Nat.le_refl _)) (by rfl) D__law_right.mg D__law_right.kp D__law_right.b .nil pass0 (pa_cons (pv 1) (pa_cons (pv 2) pa_nil))))) (pss_one (ps_ret pe_bl)) pss_nil)))
      (pss_cons (ps_if (PW.pt (pw_or (pt_cmpR (op_neD hu) (pe_call G_least_price (hr.mono (by first | decide | exact Nat.le_refl _)) (by rfl) D_least_price.mg D_least_price.kp D_least_price.b .nil pass0 (pa_cons (pe_tup (pa_cons (pe_tup (pa_cons pe_int (pa_cons pe_int (pa_cons pe_int pa_nil)))) (pa_cons (pe_tup (pa_cons pe_int (pa_cons pe_int pa_nil))) pa_nil))) (pa_cons (pe_tup (pa_cons pe_int (pa_cons pe_int pa_nil))) (pa_cons pe_int pa_nil)))) pe_int (nomark _)) (pw_or1 (pt_cmpR (op_neD hu) (pe_call G_price_of (hr.mono (by first | decide | exact Nat.le_refl _)) (by rfl) D_price_of.mg D_price_of.kp D_price_of.b .nil pass0 (pa_cons (pe_tup pa_nil) (pa_cons (pe_tup (pa_cons (pe_tup (pa_cons pe_str (pa_cons (pe_tup (pa_cons pe_int (pa_cons pe_int pa_nil))) pa_nil))) pa_nil)) (pa_cons pe_int pa_nil)))) pe_int (nomark _))))) (pss_one (ps_ret pe_bl)) pss_nil)
      (pss_cons (ps_set (i := 3) sc.nd rfl (Or.inl rfl) (pe_op op_addU (pe_call G__law_known (hr.mono (by first | decide | exact Nat.le_refl _)) (by rfl) D__law_known.mg D__law_known.kp D__law_known.b .nil pass0 (pa_cons (pv 1) (pa_cons (pe_tup (pa_cons pe_int (pa_cons pe_int (pa_cons pe_int (pa_cons pe_int pa_nil))))) pa_nil))) (pe_tup (pa_cons (pe_tup (pa_cons pe_int (pa_cons pe_int (pa_cons pe_int (pa_cons pe_int (pa_cons pe_int pa_nil)))))) pa_nil))))
      (pss_cons (ps_asg (pe_tup (pa_cons (pe_tup pa_nil) (pa_cons (pe_call G__law_roll (hr.mono (by first | decide | exact Nat.le_refl _)) (by rfl) D__law_roll.mg D__law_roll.kp D__law_roll.b .nil pass0 (pa_cons (pv 1) (pa_cons pe_int pa_nil))) pa_nil))) (pg_tup (by rfl) (pgs_cons (pg_name (i := 4) sc.nd rfl (Or.inl rfl)) (pgs_cons (pg_name (i := 5) sc.nd rfl (Or.inr rfl)) pgs_nil))))
      (pss_cons (ps_for PassesOwn.never rfl (pi_range1 (by rfl) T.nrange (pa_cons (pe_call G__law_roll (hr.mono (by first | decide | exact Nat.le_refl _)) (by rfl) D__law_roll.mg D__law_roll.kp D__law_roll.b .nil pass0 (pa_cons (pv 1) (pa_cons pe_int pa_nil))) pa_nil)) (pg_name (i := 6) sc.nd rfl (Or.inl rfl)) (pss_cons (ps_set (i := 7) sc.nd rfl (Or.inl rfl) (pe_and (pe_cmpR (op_eqD hu) (pe_call G__law_roll (hr.mono (by first | decide | exact Nat.le_refl _)) (by rfl) D__law_roll.mg D__law_roll.kp D__law_roll.b .nil pass0 (pa_cons (pv 1) (pa_cons pe_int pa_nil))) pe_int (nomark _)) (pe_one (pe_or (pe_cmpR (op_eqD hu) (pv 4) (pe_tup pa_nil) (nomark _)) (pe_one (pe_cmpR (op_eqD hu) (pe_ix ix_seq (pe_ix ix_seq (pv 4) (pe_un un_neg pe_int) (fun _ _ => rfl)) pe_int (fun _ _ => rfl)) pe_str (nomark _)))))))
      (pss_one (ps_set (i := 4) sc.nd rfl (Or.inl rfl) (pe_op op_addU (pv 4) (pe_tup (pa_cons (pe_ifExp (pt_val (pv 7)) (pe_tup (pa_cons pe_str (pa_cons (pe_op op_mulU (pe_tup (pa_cons (pe_call G__law_roll (hr.mono (by first | decide | exact Nat.le_refl _)) (by rfl) D__law_roll.mg D__law_roll.kp D__law_roll.b .nil pass0 (pa_cons (pv 1) (pa_cons pe_int pa_nil))) pa_nil)) (pe_op op_addU pe_int (pe_call G__law_roll (hr.mono (by first | decide | exact Nat.le_refl _)) (by rfl) D__law_roll.mg D__law_roll.kp D__law_roll.b .nil pass0 (pa_cons (pv 1) (pa_cons pe_int pa_nil))))) pa_nil))) (pe_tup (pa_cons pe_str (pa_cons (pe_call G__law_roll (hr.mono (by first | decide | exact Nat.le_refl _)) (by rfl) D__law_roll.mg D__law_roll.kp D__law_roll.b .nil pass0 (pa_cons (pv 1) (pa_cons (pe_callB call_lenU (by rfl) T.nlen (by decide +kernel) (pa_cons (pv 3) pa_nil)) pa_nil))) pa_nil)))) pa_nil)))))))
      (pss_cons (ps_set (i := 8) sc.nd rfl (Or.inl rfl) (pe_callB (cr_sum rfl) (by rfl) T.nsum (by decide +kernel) (pa_cons (pe_lc (own := [("word", 9), ("own", 10)]) (g := (gTup K 2 (gCons (gName 9) (gCons (gName 10) gNil)))) (by rfl) sc.nd (pi_tup (pv 4)) (blkOk_by (own := [("word", 9), ("own", 10)]) (N := N_law) (sc := defScope s_law) (by decide +kernel)) (fun _ _ _ _ _ => (pg_tup (by rfl) (pgs_cons (pg_name (i := 9) sc.nd rfl (Or.inl rfl)) (pgs_cons (pg_name (i := 10) sc.nd rfl (Or.inl rfl)) pgs_nil)))) (fun _ _ _ _ _ => pts_nil) (fun _ _ _ _ _ => (pe_ifExp (pt_cmpR (op_eqD hu) (pv 9) pe_str (nomark _)) (pv 5) (pe_callB call_lenU (by rfl) T.nlen (by decide +kernel) (pa_cons (pv 10) pa_nil))))) pa_nil)))
      (pss_one (ps_ret (pe_call G__law_same (hr.mono (by first | decide | exact Nat.le_refl _)) (by rfl) D__law_same.mg D__law_same.kp D__law_same.b .nil pass0 (pa_cons (pe_tup (pa_cons (pe_call G_told_by (hr.mono (by first | decide | exact Nat.le_refl _)) (by rfl) D_told_by.mg D_told_by.kp D_told_by.b .nil pass0 (pa_cons (pv 3) (pa_cons (pv 4) pa_nil))) (pa_cons (pe_call G_price_of (hr.mono (by first | decide | exact Nat.le_refl _)) (by rfl) D_price_of.mg D_price_of.kp D_price_of.b .nil pass0 (pa_cons (pv 3) (pa_cons (pv 4) (pa_cons (pv 5) pa_nil)))) pa_nil))) (pa_cons (pe_tup (pa_cons (pe_call G__law_told (hr.mono (by first | decide | exact Nat.le_refl _)) (by rfl) D__law_told.mg D__law_told.kp D__law_told.b .nil pass0 (pa_cons (pv 3) (pa_cons (pv 4) pa_nil))) (pa_cons (pv 8) pa_nil))) pa_nil))))))))))))
end
end K47
end Ly
namespace Ly
open PySem L2 Evl
namespace K47
theorem fn_rec {P : Program} {w : World} {K : PySem.W.Frag} {mg : Str → Option Value} {base : Heap} {f : Addr} {fd : FuncData} {ps : List Str} {R : Nat → Pr} (h0 : ∀ es O Z, R 0 es O Z → False)
    (s : ∀ k, FnOk P w K mg base CX0 k f fd ps (spX (R k)) → FnOk P w K mg base CX0 (k + 1) f fd ps (spX (R (k + 1)))) : ∀ n, FnOk P w K mg base CX0 n f fd ps (spX (R n))
  | 0 => ⟨fun vs H Q E h => by obtain ⟨_, _, _, _, _, _, _, h, _⟩ := h; exact (h0 _ _ _ h).elim, fun A outer s H args us vs Q E _ _ _ _ h => by obtain ⟨_, _, _, _, _, _, _, h, _⟩ := h; exact (h0 _ _ _ h).elim⟩
  | n + 1 => s n (fn_rec h0 s n)
theorem all_mk {l : PySem.W.OpenLaw} {w : World} {K : PySem.W.Frag} {h : Heap} {mg : Str → Option Value} {fa : Addr} (X : K.In h) (G : h.Ns mainGlobals mg) (hfa : mg "law" = some (.ref fa))
    {f0 : Addr} {od0 an0 : Option Addr} {os0 : Array (Option Value)} {oc0 kV0 dc0 pm0 cd0 ct0 : Value}
    (a0 : PySem.W.nsIn K mainGlobals "is_whole" = some (some (.ref f0))) (q0 : K.lookup f0 = some ⟨oc0, od0, .func (PySem.W.fnOf "is_whole" "is_whole" (defArgs s_is_whole) (defBody s_is_whole) (defScope s_is_whole) .none kV0 dc0 pm0 an0 cd0 ct0), os0⟩) (c0 : PySem.W.codeIn K cd0 "is_whole" = true) (k0 : PySem.W.keepIn K (.ref f0) = true)
    {f1 : Addr} {od1 an1 : Option Addr} {os1 : Array (Option Value)} {oc1 kV1 dc1 pm1 cd1 ct1 : Value}
    (a1 : PySem.W.nsIn K mainGlobals "is_tuple_of" = some (some (.ref f1))) (q1 : K.lookup f1 = some ⟨oc1, od1, .func (PySem.W.fnOf "is_tuple_of" "is_tuple_of" (defArgs s_is_tuple_of) (defBody s_is_tuple_of) (defScope s_is_tuple_of) .none kV1 dc1 pm1 an1 cd1 ct1), os1⟩) (c1 : PySem.W.codeIn K cd1 "is_tuple_of" = true) (k1 : PySem.W.keepIn K (.ref f1) = true)
    {f2 : Addr} {od2 an2 : Option Addr} {os2 : Array (Option Value)} {oc2 kV2 dc2 pm2 cd2 ct2 : Value}
    (a2 : PySem.W.nsIn K mainGlobals "fits_octets" = some (some (.ref f2))) (q2 : K.lookup f2 = some ⟨oc2, od2, .func (PySem.W.fnOf "fits_octets" "fits_octets" (defArgs s_fits_octets) (defBody s_fits_octets) (defScope s_fits_octets) .none kV2 dc2 pm2 an2 cd2 ct2), os2⟩) (c2 : PySem.W.codeIn K cd2 "fits_octets" = true) (k2 : PySem.W.keepIn K (.ref f2) = true)
    {f3 : Addr} {od3 an3 : Option Addr} {os3 : Array (Option Value)} {oc3 kV3 dc3 pm3 cd3 ct3 : Value}
    (a3 : PySem.W.nsIn K mainGlobals "fits_known" = some (some (.ref f3))) (q3 : K.lookup f3 = some ⟨oc3, od3, .func (PySem.W.fnOf "fits_known" "fits_known" (defArgs s_fits_known) (defBody s_fits_known) (defScope s_fits_known) .none kV3 dc3 pm3 an3 cd3 ct3), os3⟩) (c3 : PySem.W.codeIn K cd3 "fits_known" = true) (k3 : PySem.W.keepIn K (.ref f3) = true)
    {f4 : Addr} {od4 an4 : Option Addr} {os4 : Array (Option Value)} {oc4 kV4 dc4 pm4 cd4 ct4 : Value}
    (a4 : PySem.W.nsIn K mainGlobals "need_known" = some (some (.ref f4))) (q4 : K.lookup f4 = some ⟨oc4, od4, .func (PySem.W.fnOf "need_known" "need_known" (defArgs s_need_known) (defBody s_need_known) (defScope s_need_known) .none kV4 dc4 pm4 an4 cd4 ct4), os4⟩) (c4 : PySem.W.codeIn K cd4 "need_known" = true) (k4 : PySem.W.keepIn K (.ref f4) = true)
    {f5 : Addr} {od5 an5 : Option Addr} {os5 : Array (Option Value)} {oc5 kV5 dc5 pm5 cd5 ct5 : Value}
    (a5 : PySem.W.nsIn K mainGlobals "fits_piece" = some (some (.ref f5))) (q5 : K.lookup f5 = some ⟨oc5, od5, .func (PySem.W.fnOf "fits_piece" "fits_piece" (defArgs s_fits_piece) (defBody s_fits_piece) (defScope s_fits_piece) .none kV5 dc5 pm5 an5 cd5 ct5), os5⟩) (c5 : PySem.W.codeIn K cd5 "fits_piece" = true) (k5 : PySem.W.keepIn K (.ref f5) = true)
    {f6 : Addr} {od6 an6 : Option Addr} {os6 : Array (Option Value)} {oc6 kV6 dc6 pm6 cd6 ct6 : Value}
    (a6 : PySem.W.nsIn K mainGlobals "fits_pieces" = some (some (.ref f6))) (q6 : K.lookup f6 = some ⟨oc6, od6, .func (PySem.W.fnOf "fits_pieces" "fits_pieces" (defArgs s_fits_pieces) (defBody s_fits_pieces) (defScope s_fits_pieces) .none kV6 dc6 pm6 an6 cd6 ct6), os6⟩) (c6 : PySem.W.codeIn K cd6 "fits_pieces" = true) (k6 : PySem.W.keepIn K (.ref f6) = true)
    {f7 : Addr} {od7 an7 : Option Addr} {os7 : Array (Option Value)} {oc7 kV7 dc7 pm7 cd7 ct7 : Value}
    (a7 : PySem.W.nsIn K mainGlobals "steps_at" = some (some (.ref f7))) (q7 : K.lookup f7 = some ⟨oc7, od7, .func (PySem.W.fnOf "steps_at" "steps_at" (defArgs s_steps_at) (defBody s_steps_at) (defScope s_steps_at) .none kV7 dc7 pm7 an7 cd7 ct7), os7⟩) (c7 : PySem.W.codeIn K cd7 "steps_at" = true) (k7 : PySem.W.keepIn K (.ref f7) = true)
    {f8 : Addr} {od8 an8 : Option Addr} {os8 : Array (Option Value)} {oc8 kV8 dc8 pm8 cd8 ct8 : Value}
    (a8 : PySem.W.nsIn K mainGlobals "prices_in" = some (some (.ref f8))) (q8 : K.lookup f8 = some ⟨oc8, od8, .func (PySem.W.fnOf "prices_in" "prices_in" (defArgs s_prices_in) (defBody s_prices_in) (defScope s_prices_in) .none kV8 dc8 pm8 an8 cd8 ct8), os8⟩) (c8 : PySem.W.codeIn K cd8 "prices_in" = true) (k8 : PySem.W.keepIn K (.ref f8) = true)
    {f9 : Addr} {od9 an9 : Option Addr} {os9 : Array (Option Value)} {oc9 kV9 dc9 pm9 cd9 ct9 : Value}
    (a9 : PySem.W.nsIn K mainGlobals "need_all" = some (some (.ref f9))) (q9 : K.lookup f9 = some ⟨oc9, od9, .func (PySem.W.fnOf "need_all" "need_all" (defArgs s_need_all) (defBody s_need_all) (defScope s_need_all) .none kV9 dc9 pm9 an9 cd9 ct9), os9⟩) (c9 : PySem.W.codeIn K cd9 "need_all" = true) (k9 : PySem.W.keepIn K (.ref f9) = true)
    {f10 : Addr} {od10 an10 : Option Addr} {os10 : Array (Option Value)} {oc10 kV10 dc10 pm10 cd10 ct10 : Value}
    (a10 : PySem.W.nsIn K mainGlobals "told_by" = some (some (.ref f10))) (q10 : K.lookup f10 = some ⟨oc10, od10, .func (PySem.W.fnOf "told_by" "told_by" (defArgs s_told_by) (defBody s_told_by) (defScope s_told_by) .none kV10 dc10 pm10 an10 cd10 ct10), os10⟩) (c10 : PySem.W.codeIn K cd10 "told_by" = true) (k10 : PySem.W.keepIn K (.ref f10) = true)
    {f11 : Addr} {od11 an11 : Option Addr} {os11 : Array (Option Value)} {oc11 kV11 dc11 pm11 cd11 ct11 : Value}
    (a11 : PySem.W.nsIn K mainGlobals "price_of" = some (some (.ref f11))) (q11 : K.lookup f11 = some ⟨oc11, od11, .func (PySem.W.fnOf "price_of" "price_of" (defArgs s_price_of) (defBody s_price_of) (defScope s_price_of) .none kV11 dc11 pm11 an11 cd11 ct11), os11⟩) (c11 : PySem.W.codeIn K cd11 "price_of" = true) (k11 : PySem.W.keepIn K (.ref f11) = true)
    {f12 : Addr} {od12 an12 : Option Addr} {os12 : Array (Option Value)} {oc12 kV12 dc12 pm12 cd12 ct12 : Value}
    (a12 : PySem.W.nsIn K mainGlobals "least_price" = some (some (.ref f12))) (q12 : K.lookup f12 = some ⟨oc12, od12, .func (PySem.W.fnOf "least_price" "least_price" (defArgs s_least_price) (defBody s_least_price) (defScope s_least_price) .none kV12 dc12 pm12 an12 cd12 ct12), os12⟩) (c12 : PySem.W.codeIn K cd12 "least_price" = true) (k12 : PySem.W.keepIn K (.ref f12) = true)
    {f13 : Addr} {od13 an13 : Option Addr} {os13 : Array (Option Value)} {oc13 kV13 dc13 pm13 cd13 ct13 : Value}
    (a13 : PySem.W.nsIn K mainGlobals "best_pieces" = some (some (.ref f13))) (q13 : K.lookup f13 = some ⟨oc13, od13, .func (PySem.W.fnOf "best_pieces" "best_pieces" (defArgs s_best_pieces) (defBody s_best_pieces) (defScope s_best_pieces) .none kV13 dc13 pm13 an13 cd13 ct13), os13⟩) (c13 : PySem.W.codeIn K cd13 "best_pieces" = true) (k13 : PySem.W.keepIn K (.ref f13) = true)
    {f14 : Addr} {od14 an14 : Option Addr} {os14 : Array (Option Value)} {oc14 kV14 dc14 pm14 cd14 ct14 : Value}
    (a14 : PySem.W.nsIn K mainGlobals "_law_cup" = some (some (.ref f14))) (q14 : K.lookup f14 = some ⟨oc14, od14, .func (PySem.W.fnOf "_law_cup" "_law_cup" (defArgs s__law_cup) (defBody s__law_cup) (defScope s__law_cup) .none kV14 dc14 pm14 an14 cd14 ct14), os14⟩) (c14 : PySem.W.codeIn K cd14 "_law_cup" = true) (k14 : PySem.W.keepIn K (.ref f14) = true)
    {f15 : Addr} {od15 an15 : Option Addr} {os15 : Array (Option Value)} {oc15 kV15 dc15 pm15 cd15 ct15 : Value}
    (a15 : PySem.W.nsIn K mainGlobals "_law_roll" = some (some (.ref f15))) (q15 : K.lookup f15 = some ⟨oc15, od15, .func (PySem.W.fnOf "_law_roll" "_law_roll" (defArgs s__law_roll) (defBody s__law_roll) (defScope s__law_roll) .none kV15 dc15 pm15 an15 cd15 ct15), os15⟩) (c15 : PySem.W.codeIn K cd15 "_law_roll" = true) (k15 : PySem.W.keepIn K (.ref f15) = true)
    {f16 : Addr} {od16 an16 : Option Addr} {os16 : Array (Option Value)} {oc16 kV16 dc16 pm16 cd16 ct16 : Value}
    (a16 : PySem.W.nsIn K mainGlobals "_law_same" = some (some (.ref f16))) (q16 : K.lookup f16 = some ⟨oc16, od16, .func (PySem.W.fnOf "_law_same" "_law_same" (defArgs s__law_same) (defBody s__law_same) (defScope s__law_same) .none kV16 dc16 pm16 an16 cd16 ct16), os16⟩) (c16 : PySem.W.codeIn K cd16 "_law_same" = true) (k16 : PySem.W.keepIn K (.ref f16) = true)
    {f17 : Addr} {od17 an17 : Option Addr} {os17 : Array (Option Value)} {oc17 kV17 dc17 pm17 cd17 ct17 : Value}
    (a17 : PySem.W.nsIn K mainGlobals "_law_some" = some (some (.ref f17))) (q17 : K.lookup f17 = some ⟨oc17, od17, .func (PySem.W.fnOf "_law_some" "_law_some" (defArgs s__law_some) (defBody s__law_some) (defScope s__law_some) .none kV17 dc17 pm17 an17 cd17 ct17), os17⟩) (c17 : PySem.W.codeIn K cd17 "_law_some" = true) (k17 : PySem.W.keepIn K (.ref f17) = true)
    {f18 : Addr} {od18 an18 : Option Addr} {os18 : Array (Option Value)} {oc18 kV18 dc18 pm18 cd18 ct18 : Value}
    (a18 : PySem.W.nsIn K mainGlobals "_law_file" = some (some (.ref f18))) (q18 : K.lookup f18 = some ⟨oc18, od18, .func (PySem.W.fnOf "_law_file" "_law_file" (defArgs s__law_file) (defBody s__law_file) (defScope s__law_file) .none kV18 dc18 pm18 an18 cd18 ct18), os18⟩) (c18 : PySem.W.codeIn K cd18 "_law_file" = true) (k18 : PySem.W.keepIn K (.ref f18) = true)
    {f19 : Addr} {od19 an19 : Option Addr} {os19 : Array (Option Value)} {oc19 kV19 dc19 pm19 cd19 ct19 : Value}
    (a19 : PySem.W.nsIn K mainGlobals "_law_octets" = some (some (.ref f19))) (q19 : K.lookup f19 = some ⟨oc19, od19, .func (PySem.W.fnOf "_law_octets" "_law_octets" (defArgs s__law_octets) (defBody s__law_octets) (defScope s__law_octets) .none kV19 dc19 pm19 an19 cd19 ct19), os19⟩) (c19 : PySem.W.codeIn K cd19 "_law_octets" = true) (k19 : PySem.W.keepIn K (.ref f19) = true)
    {f20 : Addr} {od20 an20 : Option Addr} {os20 : Array (Option Value)} {oc20 kV20 dc20 pm20 cd20 ct20 : Value}
    (a20 : PySem.W.nsIn K mainGlobals "_law_known" = some (some (.ref f20))) (q20 : K.lookup f20 = some ⟨oc20, od20, .func (PySem.W.fnOf "_law_known" "_law_known" (defArgs s__law_known) (defBody s__law_known) (defScope s__law_known) .none kV20 dc20 pm20 an20 cd20 ct20), os20⟩) (c20 : PySem.W.codeIn K cd20 "_law_known" = true) (k20 : PySem.W.keepIn K (.ref f20) = true)
    {f21 : Addr} {od21 an21 : Option Addr} {os21 : Array (Option Value)} {oc21 kV21 dc21 pm21 cd21 ct21 : Value}
    (a21 : PySem.W.nsIn K mainGlobals "_law_steps" = some (some (.ref f21))) (q21 : K.lookup f21 = some ⟨oc21, od21, .func (PySem.W.fnOf "_law_steps" "_law_steps" (defArgs s__law_steps) (defBody s__law_steps) (defScope s__law_steps) .none kV21 dc21 pm21 an21 cd21 ct21), os21⟩) (c21 : PySem.W.codeIn K cd21 "_law_steps" = true) (k21 : PySem.W.keepIn K (.ref f21) = true)
    {f22 : Addr} {od22 an22 : Option Addr} {os22 : Array (Option Value)} {oc22 kV22 dc22 pm22 cd22 ct22 : Value}
    (a22 : PySem.W.nsIn K mainGlobals "_law_least" = some (some (.ref f22))) (q22 : K.lookup f22 = some ⟨oc22, od22, .func (PySem.W.fnOf "_law_least" "_law_least" (defArgs s__law_least) (defBody s__law_least) (defScope s__law_least) .none kV22 dc22 pm22 an22 cd22 ct22), os22⟩) (c22 : PySem.W.codeIn K cd22 "_law_least" = true) (k22 : PySem.W.keepIn K (.ref f22) = true)
    {f23 : Addr} {od23 an23 : Option Addr} {os23 : Array (Option Value)} {oc23 kV23 dc23 pm23 cd23 ct23 : Value}
    (a23 : PySem.W.nsIn K mainGlobals "_law_told" = some (some (.ref f23))) (q23 : K.lookup f23 = some ⟨oc23, od23, .func (PySem.W.fnOf "_law_told" "_law_told" (defArgs s__law_told) (defBody s__law_told) (defScope s__law_told) .none kV23 dc23 pm23 an23 cd23 ct23), os23⟩) (c23 : PySem.W.codeIn K cd23 "_law_told" = true) (k23 : PySem.W.keepIn K (.ref f23) = true)
    {f24 : Addr} {od24 an24 : Option Addr} {os24 : Array (Option Value)} {oc24 kV24 dc24 pm24 cd24 ct24 : Value}
    (a24 : PySem.W.nsIn K mainGlobals "_law_every" = some (some (.ref f24))) (q24 : K.lookup f24 = some ⟨oc24, od24, .func (PySem.W.fnOf "_law_every" "_law_every" (defArgs s__law_every) (defBody s__law_every) (defScope s__law_every) .none kV24 dc24 pm24 an24 cd24 ct24), os24⟩) (c24 : PySem.W.codeIn K cd24 "_law_every" = true) (k24 : PySem.W.keepIn K (.ref f24) = true)
    {f25 : Addr} {od25 an25 : Option Addr} {os25 : Array (Option Value)} {oc25 kV25 dc25 pm25 cd25 ct25 : Value}
    (a25 : PySem.W.nsIn K mainGlobals "_law_right" = some (some (.ref f25))) (q25 : K.lookup f25 = some ⟨oc25, od25, .func (PySem.W.fnOf "_law_right" "_law_right" (defArgs s__law_right) (defBody s__law_right) (defScope s__law_right) .none kV25 dc25 pm25 an25 cd25 ct25), os25⟩) (c25 : PySem.W.codeIn K cd25 "_law_right" = true) (k25 : PySem.W.keepIn K (.ref f25) = true)
    {f26 : Addr} {od26 an26 : Option Addr} {os26 : Array (Option Value)} {oc26 kV26 dc26 pm26 cd26 ct26 : Value}
    (a26 : PySem.W.nsIn K mainGlobals "law" = some (some (.ref f26))) (q26 : K.lookup f26 = some ⟨oc26, od26, .func (PySem.W.fnOf "law" "law" (defArgs s_law) (defBody s_law) (defScope s_law) .none kV26 dc26 pm26 an26 cd26 ct26), os26⟩) (c26 : PySem.W.codeIn K cd26 "law" = true) (k26 : PySem.W.keepIn K (.ref f26) = true)
    {u_FRAME : Value} (v_FRAME : PySem.W.nsIn K mainGlobals "FRAME" = some (some u_FRAME)) (r_FRAME : RelV (.int 100) u_FRAME)
    {u_KNOWN : Value} (v_KNOWN : PySem.W.nsIn K mainGlobals "KNOWN" = some (some u_KNOWN)) (r_KNOWN : RelV (.int 64) u_KNOWN)
    {u_OCTETS : Value} (v_OCTETS : PySem.W.nsIn K mainGlobals "OCTETS" = some (some u_OCTETS)) (r_OCTETS : RelV (.int 5000) u_OCTETS)
    {u_SIZE : Value} (v_SIZE : PySem.W.nsIn K mainGlobals "SIZE" = some (some u_SIZE)) (r_SIZE : RelV (.int 512) u_SIZE)
    (z_abs : PySem.W.nsIn K mainGlobals "abs" = some none)
    (z_all : PySem.W.nsIn K mainGlobals "all" = some none)
    (z_any : PySem.W.nsIn K mainGlobals "any" = some none)
    (z_bool : PySem.W.nsIn K mainGlobals "bool" = some none)
    (z_enumerate : PySem.W.nsIn K mainGlobals "enumerate" = some none)
    (z_int : PySem.W.nsIn K mainGlobals "int" = some none)
    (z_isinstance : PySem.W.nsIn K mainGlobals "isinstance" = some none)
    (z_len : PySem.W.nsIn K mainGlobals "len" = some none)
    (z_list : PySem.W.nsIn K mainGlobals "list" = some none)
    (z_min : PySem.W.nsIn K mainGlobals "min" = some none)
    (z_range : PySem.W.nsIn K mainGlobals "range" = some none)
    (z_set : PySem.W.nsIn K mainGlobals "set" = some none)
    (z_str : PySem.W.nsIn K mainGlobals "str" = some none)
    (z_sum : PySem.W.nsIn K mainGlobals "sum" = some none)
    (z_tuple : PySem.W.nsIn K mainGlobals "tuple" = some none)
    (z_zip : PySem.W.nsIn K mainGlobals "zip" = some none)
    : ∃ fd : FuncData, (∀ (s : Shared) (v : Value), BindsTo s fd ⟨[v], []⟩ [("script", v)]) ∧ ∀ base : Heap, K.In base → base.Ns mainGlobals mg → FnOk l.prog w K mg base CX0 8 fa fd ["script"] (spLaw K) := by
  have e := hfa.symm.trans (PySem.W.mg_of X G a26)
  cases e
  have T : Txt mg := ⟨⟨u_FRAME, PySem.W.mg_of X G v_FRAME, r_FRAME⟩, ⟨u_KNOWN, PySem.W.mg_of X G v_KNOWN, r_KNOWN⟩, ⟨u_OCTETS, PySem.W.mg_of X G v_OCTETS, r_OCTETS⟩, ⟨u_SIZE, PySem.W.mg_of X G v_SIZE, r_SIZE⟩, PySem.W.mg_none_of X G z_abs, PySem.W.mg_none_of X G z_all, PySem.W.mg_none_of X G z_any, PySem.W.mg_none_of X G z_bool, PySem.W.mg_none_of X G z_enumerate, PySem.W.mg_none_of X G z_int, PySem.W.mg_none_of X G z_isinstance, PySem.W.mg_none_of X G z_len, PySem.W.mg_none_of X G z_list, PySem.W.mg_none_of X G z_min, PySem.W.mg_none_of X G z_range, PySem.W.mg_none_of X G z_set, PySem.W.mg_none_of X G z_str, PySem.W.mg_none_of X G z_sum, PySem.W.mg_none_of X G z_tuple, PySem.W.mg_none_of X G z_zip⟩
  have F_is_whole := fun_mk (st := s_is_whole) q0 c0 k0
  have D_is_whole : Df K mg "is_whole" s_is_whole ["value", "low", "high"] _ _ := ⟨F_is_whole, PySem.W.mg_of X G a0, F_is_whole.binds (ps := ["value", "low", "high"]) fun _ _ _ _ _ _ us hl => match us, hl with | [_, _, _], _ => rfl⟩
  have F_is_tuple_of := fun_mk (st := s_is_tuple_of) q1 c1 k1
  have D_is_tuple_of : Df K mg "is_tuple_of" s_is_tuple_of ["value", "low", "high"] _ _ := ⟨F_is_tuple_of, PySem.W.mg_of X G a1, F_is_tuple_of.binds (ps := ["value", "low", "high"]) fun _ _ _ _ _ _ us hl => match us, hl with | [_, _, _], _ => rfl⟩
  have F_fits_octets := fun_mk (st := s_fits_octets) q2 c2 k2
  have D_fits_octets : Df K mg "fits_octets" s_fits_octets ["value", "most"] _ _ := ⟨F_fits_octets, PySem.W.mg_of X G a2, F_fits_octets.binds (ps := ["value", "most"]) fun _ _ _ _ _ _ us hl => match us, hl with | [_, _], _ => rfl⟩
  have F_fits_known := fun_mk (st := s_fits_known) q3 c3 k3
  have D_fits_known : Df K mg "fits_known" s_fits_known ["value"] _ _ := ⟨F_fits_known, PySem.W.mg_of X G a3, F_fits_known.binds (ps := ["value"]) fun _ _ _ _ _ _ us hl => match us, hl with | [_], _ => rfl⟩
  have F_need_known := fun_mk (st := s_need_known) q4 c4 k4
  have D_need_known : Df K mg "need_known" s_need_known ["known"] _ _ := ⟨F_need_known, PySem.W.mg_of X G a4, F_need_known.binds (ps := ["known"]) fun _ _ _ _ _ _ us hl => match us, hl with | [_], _ => rfl⟩
  have F_fits_piece := fun_mk (st := s_fits_piece) q5 c5 k5
  have D_fits_piece : Df K mg "fits_piece" s_fits_piece ["known", "value"] _ _ := ⟨F_fits_piece, PySem.W.mg_of X G a5, F_fits_piece.binds (ps := ["known", "value"]) fun _ _ _ _ _ _ us hl => match us, hl with | [_, _], _ => rfl⟩
  have F_fits_pieces := fun_mk (st := s_fits_pieces) q6 c6 k6
  have D_fits_pieces : Df K mg "fits_pieces" s_fits_pieces ["known", "value"] _ _ := ⟨F_fits_pieces, PySem.W.mg_of X G a6, F_fits_pieces.binds (ps := ["known", "value"]) fun _ _ _ _ _ _ us hl => match us, hl with | [_, _], _ => rfl⟩
  have F_steps_at := fun_mk (st := s_steps_at) q7 c7 k7
  have D_steps_at : Df K mg "steps_at" s_steps_at ["known", "octets", "at", "frame"] _ _ := ⟨F_steps_at, PySem.W.mg_of X G a7, F_steps_at.binds (ps := ["known", "octets", "at", "frame"]) fun _ _ _ _ _ _ us hl => match us, hl with | [_, _, _, _], _ => rfl⟩
  have F_prices_in := fun_mk (st := s_prices_in) q8 c8 k8
  have D_prices_in : Df K mg "prices_in" s_prices_in ["known", "octets", "frame"] _ _ := ⟨F_prices_in, PySem.W.mg_of X G a8, F_prices_in.binds (ps := ["known", "octets", "frame"]) fun _ _ _ _ _ _ us hl => match us, hl with | [_, _, _], _ => rfl⟩
  have F_need_all := fun_mk (st := s_need_all) q9 c9 k9
  have D_need_all : Df K mg "need_all" s_need_all ["known", "octets", "frame"] _ _ := ⟨F_need_all, PySem.W.mg_of X G a9, F_need_all.binds (ps := ["known", "octets", "frame"]) fun _ _ _ _ _ _ us hl => match us, hl with | [_, _, _], _ => rfl⟩
  have F_told_by := fun_mk (st := s_told_by) q10 c10 k10
  have D_told_by : Df K mg "told_by" s_told_by ["known", "pieces"] _ _ := ⟨F_told_by, PySem.W.mg_of X G a10, F_told_by.binds (ps := ["known", "pieces"]) fun _ _ _ _ _ _ us hl => match us, hl with | [_, _], _ => rfl⟩
  have F_price_of := fun_mk (st := s_price_of) q11 c11 k11
  have D_price_of : Df K mg "price_of" s_price_of ["known", "pieces", "frame"] _ _ := ⟨F_price_of, PySem.W.mg_of X G a11, F_price_of.binds (ps := ["known", "pieces", "frame"]) fun _ _ _ _ _ _ us hl => match us, hl with | [_, _, _], _ => rfl⟩
  have F_least_price := fun_mk (st := s_least_price) q12 c12 k12
  have D_least_price : Df K mg "least_price" s_least_price ["known", "octets", "frame"] _ _ := ⟨F_least_price, PySem.W.mg_of X G a12, F_least_price.binds (ps := ["known", "octets", "frame"]) fun _ _ _ _ _ _ us hl => match us, hl with | [_, _, _], _ => rfl⟩
  have F_best_pieces := fun_mk (st := s_best_pieces) q13 c13 k13
  have D_best_pieces : Df K mg "best_pieces" s_best_pieces ["known", "octets", "frame"] _ _ := ⟨F_best_pieces, PySem.W.mg_of X G a13, F_best_pieces.binds (ps := ["known", "octets", "frame"]) fun _ _ _ _ _ _ us hl => match us, hl with | [_, _, _], _ => rfl⟩
  have F__law_cup := fun_mk (st := s__law_cup) q14 c14 k14
  have D__law_cup : Df K mg "_law_cup" s__law_cup ["script"] _ _ := ⟨F__law_cup, PySem.W.mg_of X G a14, F__law_cup.binds (ps := ["script"]) fun _ _ _ _ _ _ us hl => match us, hl with | [_], _ => rfl⟩
  have F__law_roll := fun_mk (st := s__law_roll) q15 c15 k15
  have D__law_roll : Df K mg "_law_roll" s__law_roll ["cup", "many"] _ _ := ⟨F__law_roll, PySem.W.mg_of X G a15, F__law_roll.binds (ps := ["cup", "many"]) fun _ _ _ _ _ _ us hl => match us, hl with | [_, _], _ => rfl⟩
  have F__law_same := fun_mk (st := s__law_same) q16 c16 k16
  have D__law_same : Df K mg "_law_same" s__law_same ["told", "due"] _ _ := ⟨F__law_same, PySem.W.mg_of X G a16, F__law_same.binds (ps := ["told", "due"]) fun _ _ _ _ _ _ us hl => match us, hl with | [_, _], _ => rfl⟩
  have F__law_some := fun_mk (st := s__law_some) q17 c17 k17
  have D__law_some : Df K mg "_law_some" s__law_some ["cup", "things"] _ _ := ⟨F__law_some, PySem.W.mg_of X G a17, F__law_some.binds (ps := ["cup", "things"]) fun _ _ _ _ _ _ us hl => match us, hl with | [_, _], _ => rfl⟩
  have F__law_file := fun_mk (st := s__law_file) q18 c18 k18
  have D__law_file : Df K mg "_law_file" s__law_file ["cup", "most"] _ _ := ⟨F__law_file, PySem.W.mg_of X G a18, F__law_file.binds (ps := ["cup", "most"]) fun _ _ _ _ _ _ us hl => match us, hl with | [_, _], _ => rfl⟩
  have F__law_octets := fun_mk (st := s__law_octets) q19 c19 k19
  have D__law_octets : Df K mg "_law_octets" s__law_octets ["cup", "most"] _ _ := ⟨F__law_octets, PySem.W.mg_of X G a19, F__law_octets.binds (ps := ["cup", "most"]) fun _ _ _ _ _ _ us hl => match us, hl with | [_, _], _ => rfl⟩
  have F__law_known := fun_mk (st := s__law_known) q20 c20 k20
  have D__law_known : Df K mg "_law_known" s__law_known ["cup", "octets"] _ _ := ⟨F__law_known, PySem.W.mg_of X G a20, F__law_known.binds (ps := ["cup", "octets"]) fun _ _ _ _ _ _ us hl => match us, hl with | [_, _], _ => rfl⟩
  have F__law_steps := fun_mk (st := s__law_steps) q21 c21 k21
  have D__law_steps : Df K mg "_law_steps" s__law_steps ["known", "octets", "at", "frame"] _ _ := ⟨F__law_steps, PySem.W.mg_of X G a21, F__law_steps.binds (ps := ["known", "octets", "at", "frame"]) fun _ _ _ _ _ _ us hl => match us, hl with | [_, _, _, _], _ => rfl⟩
  have F__law_least := fun_mk (st := s__law_least) q22 c22 k22
  have D__law_least : Df K mg "_law_least" s__law_least ["known", "octets", "frame"] _ _ := ⟨F__law_least, PySem.W.mg_of X G a22, F__law_least.binds (ps := ["known", "octets", "frame"]) fun _ _ _ _ _ _ us hl => match us, hl with | [_, _, _], _ => rfl⟩
  have F__law_told := fun_mk (st := s__law_told) q23 c23 k23
  have D__law_told : Df K mg "_law_told" s__law_told ["known", "pieces"] _ _ := ⟨F__law_told, PySem.W.mg_of X G a23, F__law_told.binds (ps := ["known", "pieces"]) fun _ _ _ _ _ _ us hl => match us, hl with | [_, _], _ => rfl⟩
  have F__law_every := fun_mk (st := s__law_every) q24 c24 k24
  have D__law_every : Df K mg "_law_every" s__law_every ["known", "octets"] _ _ := ⟨F__law_every, PySem.W.mg_of X G a24, F__law_every.binds (ps := ["known", "octets"]) fun _ _ _ _ _ _ us hl => match us, hl with | [_, _], _ => rfl⟩
  have F__law_right := fun_mk (st := s__law_right) q25 c25 k25
  have D__law_right : Df K mg "_law_right" s__law_right ["cup", "most"] _ _ := ⟨F__law_right, PySem.W.mg_of X G a25, F__law_right.binds (ps := ["cup", "most"]) fun _ _ _ _ _ _ us hl => match us, hl with | [_, _], _ => rfl⟩
  have F_law := fun_mk (st := s_law) q26 c26 k26
  have D_law : Df K mg "law" s_law ["script"] _ _ := ⟨F_law, PySem.W.mg_of X G a26, F_law.binds (ps := ["script"]) fun _ _ _ _ _ _ us hl => match us, hl with | [_], _ => rfl⟩
  refine ⟨PySem.W.fnOf "law" "law" (defArgs s_law) (defBody s_law) (defScope s_law) .none kV26 dc26 pm26 an26 cd26 ct26, fun s v => .of_eq rfl, fun base _ _ => ?_⟩
  have G_is_whole := ok_is_whole (P := l.prog) (w := w) (base := base) (R := R_is_whole) T F_is_whole l_is_whole s_is_whole'
  have G_is_tuple_of := ok_is_tuple_of (P := l.prog) (w := w) (base := base) (R := R_is_tuple_of) T F_is_tuple_of l_is_tuple_of s_is_tuple_of'
  have G_fits_octets := ok_fits_octets (P := l.prog) (w := w) (base := base) (R := R_fits_octets) T F_fits_octets D_is_tuple_of G_is_tuple_of D_is_whole G_is_whole l_fits_octets s_fits_octets'
  have G_fits_known := ok_fits_known (P := l.prog) (w := w) (base := base) (R := R_fits_known) T F_fits_known D_is_tuple_of G_is_tuple_of D_fits_octets G_fits_octets l_fits_known s_fits_known'
  have G_need_known := ok_need_known (P := l.prog) (w := w) (base := base) (R := R_need_known) T F_need_known D_fits_known G_fits_known l_need_known s_need_known'
  have G_fits_piece := ok_fits_piece (P := l.prog) (w := w) (base := base) (R := R_fits_piece) T F_fits_piece D_is_tuple_of G_is_tuple_of D_is_whole G_is_whole D_fits_octets G_fits_octets l_fits_piece s_fits_piece'
  have G_fits_pieces := ok_fits_pieces (P := l.prog) (w := w) (base := base) (R := R_fits_pieces) T F_fits_pieces D_is_tuple_of G_is_tuple_of D_fits_piece G_fits_piece l_fits_pieces s_fits_pieces'
  have G_steps_at := ok_steps_at (P := l.prog) (w := w) (base := base) (R := R_steps_at) T F_steps_at l_steps_at s_steps_at'
  have G_prices_in := ok_prices_in (P := l.prog) (w := w) (base := base) (R := R_prices_in) T F_prices_in D_steps_at G_steps_at l_prices_in s_prices_in'
  have G_need_all := ok_need_all (P := l.prog) (w := w) (base := base) (R := R_need_all) T F_need_all D_need_known G_need_known D_fits_octets G_fits_octets D_is_whole G_is_whole l_need_all s_need_all'
  have G_told_by := ok_told_by (P := l.prog) (w := w) (base := base) (R := R_told_by) T F_told_by D_need_known G_need_known D_fits_pieces G_fits_pieces l_told_by s_told_by'
  have G_price_of := ok_price_of (P := l.prog) (w := w) (base := base) (R := R_price_of) T F_price_of D_need_known G_need_known D_fits_pieces G_fits_pieces D_is_whole G_is_whole l_price_of s_price_of'
  have G_least_price := ok_least_price (P := l.prog) (w := w) (base := base) (R := R_least_price) T F_least_price D_need_all G_need_all D_prices_in G_prices_in l_least_price s_least_price'
  have G_best_pieces := ok_best_pieces (P := l.prog) (w := w) (base := base) (R := R_best_pieces) T F_best_pieces D_need_all G_need_all D_prices_in G_prices_in l_best_pieces s_best_pieces'
  have G__law_cup := ok__law_cup (P := l.prog) (w := w) (base := base) (S := S__law_cup K) T F__law_cup (fun vs H Q E h => by obtain ⟨a, ns, rfl, _⟩ := h; rfl) (fun vs H Q E h => b_cup h)
  have G__law_roll := ok__law_roll (P := l.prog) (w := w) (base := base) (R := R__law_roll) T F__law_roll l__law_roll s__law_roll'
  have G__law_same := fn_rec (P := l.prog) (w := w) (base := base) (R := Rs) (fun _ _ _ h => h.elim) (fun k ih => ok__law_same (R := Rs (k + 1)) (k := k) T F__law_same  D__law_same ih (l__law_same (k + 1)) (s__law_same' k)) 4
  have G__law_some := ok__law_some (P := l.prog) (w := w) (base := base) (R := R__law_some) T F__law_some D__law_roll G__law_roll l__law_some s__law_some'
  have G__law_file := ok__law_file (P := l.prog) (w := w) (base := base) (R := R__law_file) T F__law_file D__law_roll G__law_roll D__law_some G__law_some l__law_file s__law_file'
  have G__law_octets := ok__law_octets (P := l.prog) (w := w) (base := base) (R := R__law_octets) T F__law_octets D__law_roll G__law_roll D__law_file G__law_file D__law_some G__law_some l__law_octets s__law_octets'
  have G__law_known := ok__law_known (P := l.prog) (w := w) (base := base) (R := R__law_known) T F__law_known D__law_roll G__law_roll D__law_file G__law_file D__law_some G__law_some l__law_known s__law_known'
  have G__law_steps := ok__law_steps (P := l.prog) (w := w) (base := base) (R := R__law_steps) T F__law_steps l__law_steps s__law_steps'
  have G__law_least := ok__law_least (P := l.prog) (w := w) (base := base) (R := R__law_least) T F__law_least D__law_steps G__law_steps l__law_least s__law_least'
  have G__law_told := ok__law_told (P := l.prog) (w := w) (base := base) (R := R__law_told) T F__law_told l__law_told s__law_told'
  have G__law_every := ok__law_every (P := l.prog) (w := w) (base := base) (R := R__law_every) T F__law_every l__law_every s__law_every'
  have G__law_right := ok__law_right (P := l.prog) (w := w) (base := base) (R := R__law_right) T F__law_right D__law_roll G__law_roll D__law_some G__law_some D__law_octets G__law_octets D__law_known G__law_known D__law_least G__law_least D_best_pieces G_best_pieces D_price_of G_price_of D_told_by G_told_by D_least_price G_least_price D__law_same G__law_same D__law_told G__law_told D__law_every G__law_every l__law_right s__law_right'
  exact ok_law (P := l.prog) (w := w) (base := base) (S := spLaw K) T F_law D__law_cup G__law_cup D__law_right G__law_right D_least_price G_least_price D_price_of G_price_of D__law_known G__law_known D__law_roll G__law_roll D__law_told G__law_told D_told_by G_told_by D__law_same G__law_same (fun vs H Q E h => by obtain ⟨a, ns, rfl, _⟩ := h; rfl) (fun vs H Q E h => b_law h)
theorem walk {l : PySem.W.OpenLaw} {q : Program} {loose : List Str} {XP : (Str → Option Value) → Heap → Prop} {YP : World → Heap → Prop} {d : DefRec} {K : Params → PySem.W.Frag} (hn : l.most = some 63) (hdf : d.params.defaults = [])
    (hY : ∀ (w : World) (h : Heap), YP w h → (K w.params).In h)
    (F : ∀ (w : World) (mg : Str → Option Value) (fa : Addr) (h : Heap), (K w.params).In h → h.Ns mainGlobals mg → mg d.name = some (.ref fa) →
      ∃ fd : FuncData, (∀ (s : Shared) (u : Value), BindsTo s fd ⟨[u], []⟩ [("script", u)]) ∧ ∀ base : Heap, (K w.params).In base → base.Ns mainGlobals mg → FnOk l.prog w (K w.params) mg base CX0 8 fa fd ["script"] (spLaw (K w.params))) :
    PySem.W.WalkO q loose XP YP l.row.toRowW d [] (fun f vs => PySem.call f vs) :=
  L2.walk_of (n := 63) (k := 8) (x := "script") (CX := fun _ => CX0) (sp := fun w => spLaw (K w.params)) hn (by decide) hdf ⟨rfl, by decide, by decide⟩ hY F (fun _ _ a ns hl _ hS => ⟨a, ns, rfl, hS, hl, fun _ => rfl⟩) fun _ _ _ _ _ z => z
end K47
end Ly
open PySem PySem.W PyProof.Rows
set_option maxRecDepth 100000 in
set_option maxHeartbeats 0 in
theorem PySem.Challenge.cw_layersheld_k47_whole_least_pieces_holds : PySem.Challenge.rw_layersheld_k47_whole_least_pieces.Holds := by
  w_on; o_law; k_head; (case hw => w_witness2)
  k_fill
  refine Ly.K47.walk (l := PySem.Challenge.rw_layersheld_k47_whole_least_pieces) rfl rfl (fun w h Y => PySem.W.kIn_of Y) ?F
  case F =>
    intro w mg fa h KX G hmg
    refine' Ly.K47.all_mk KX G hmg ?a0 ?q0 ?c0 ?k0 ?a1 ?q1 ?c1 ?k1 ?a2 ?q2 ?c2 ?k2 ?a3 ?q3 ?c3 ?k3 ?a4 ?q4 ?c4 ?k4 ?a5 ?q5 ?c5 ?k5 ?a6 ?q6 ?c6 ?k6 ?a7 ?q7 ?c7 ?k7 ?a8 ?q8 ?c8 ?k8 ?a9 ?q9 ?c9 ?k9 ?a10 ?q10 ?c10 ?k10 ?a11 ?q11 ?c11 ?k11 ?a12 ?q12 ?c12 ?k12 ?a13 ?q13 ?c13 ?k13 ?a14 ?q14 ?c14 ?k14 ?a15 ?q15 ?c15 ?k15 ?a16 ?q16 ?c16 ?k16 ?a17 ?q17 ?c17 ?k17 ?a18 ?q18 ?c18 ?k18 ?a19 ?q19 ?c19 ?k19 ?a20 ?q20 ?c20 ?k20 ?a21 ?q21 ?c21 ?k21 ?a22 ?q22 ?c22 ?k22 ?a23 ?q23 ?c23 ?k23 ?a24 ?q24 ?c24 ?k24 ?a25 ?q25 ?c25 ?k25 ?a26 ?q26 ?c26 ?k26 ?v_FRAME ?r_FRAME ?v_KNOWN ?r_KNOWN ?v_OCTETS ?r_OCTETS ?v_SIZE ?r_SIZE ?z_abs ?z_all ?z_any ?z_bool ?z_enumerate ?z_int ?z_isinstance ?z_len ?z_list ?z_min ?z_range ?z_set ?z_str ?z_sum ?z_tuple ?z_zip
    (case a0 => k_is)
    (case q0 => k_is)
    (case c0 => k_is)
    (case k0 => k_is)
    (case a1 => k_is)
    (case q1 => k_is)
    (case c1 => k_is)
    (case k1 => k_is)
    (case a2 => k_is)
    (case q2 => k_is)
    (case c2 => k_is)
    (case k2 => k_is)
    (case a3 => k_is)
    (case q3 => k_is)
    (case c3 => k_is)
    (case k3 => k_is)
    (case a4 => k_is)
    (case q4 => k_is)
    (case c4 => k_is)
    (case k4 => k_is)
    (case a5 => k_is)
    (case q5 => k_is)
    (case c5 => k_is)
    (case k5 => k_is)
    (case a6 => k_is)
    (case q6 => k_is)
    (case c6 => k_is)
    (case k6 => k_is)
    (case a7 => k_is)
    (case q7 => k_is)
    (case c7 => k_is)
    (case k7 => k_is)
    (case a8 => k_is)
    (case q8 => k_is)
    (case c8 => k_is)
    (case k8 => k_is)
    (case a9 => k_is)
    (case q9 => k_is)
    (case c9 => k_is)
    (case k9 => k_is)
    (case a10 => k_is)
    (case q10 => k_is)
    (case c10 => k_is)
    (case k10 => k_is)
    (case a11 => k_is)
    (case q11 => k_is)
    (case c11 => k_is)
    (case k11 => k_is)
    (case a12 => k_is)
    (case q12 => k_is)
    (case c12 => k_is)
    (case k12 => k_is)
    (case a13 => k_is)
    (case q13 => k_is)
    (case c13 => k_is)
    (case k13 => k_is)
    (case a14 => k_is)
    (case q14 => k_is)
    (case c14 => k_is)
    (case k14 => k_is)
    (case a15 => k_is)
    (case q15 => k_is)
    (case c15 => k_is)
    (case k15 => k_is)
    (case a16 => k_is)
    (case q16 => k_is)
    (case c16 => k_is)
    (case k16 => k_is)
    (case a17 => k_is)
    (case q17 => k_is)
    (case c17 => k_is)
    (case k17 => k_is)
    (case a18 => k_is)
    (case q18 => k_is)
    (case c18 => k_is)
    (case k18 => k_is)
    (case a19 => k_is)
    (case q19 => k_is)
    (case c19 => k_is)
    (case k19 => k_is)
    (case a20 => k_is)
    (case q20 => k_is)
    (case c20 => k_is)
    (case k20 => k_is)
    (case a21 => k_is)
    (case q21 => k_is)
    (case c21 => k_is)
    (case k21 => k_is)
    (case a22 => k_is)
    (case q22 => k_is)
    (case c22 => k_is)
    (case k22 => k_is)
    (case a23 => k_is)
    (case q23 => k_is)
    (case c23 => k_is)
    (case k23 => k_is)
    (case a24 => k_is)
    (case q24 => k_is)
    (case c24 => k_is)
    (case k24 => k_is)
    (case a25 => k_is)
    (case q25 => k_is)
    (case c25 => k_is)
    (case k25 => k_is)
    (case a26 => k_is)
    (case q26 => k_is)
    (case c26 => k_is)
    (case k26 => k_is)
    (case v_FRAME => k_is)
    (case r_FRAME => exact ⟨_, rfl⟩)
    (case v_KNOWN => k_is)
    (case r_KNOWN => exact ⟨_, rfl⟩)
    (case v_OCTETS => k_is)
    (case r_OCTETS => exact ⟨_, rfl⟩)
    (case v_SIZE => k_is)
    (case r_SIZE => exact ⟨_, rfl⟩)
    (case z_abs => k_is)
    (case z_all => k_is)
    (case z_any => k_is)
    (case z_bool => k_is)
    (case z_enumerate => k_is)
    (case z_int => k_is)
    (case z_isinstance => k_is)
    (case z_len => k_is)
    (case z_list => k_is)
    (case z_min => k_is)
    (case z_range => k_is)
    (case z_set => k_is)
    (case z_str => k_is)
    (case z_sum => k_is)
    (case z_tuple => k_is)
    (case z_zip => k_is)
