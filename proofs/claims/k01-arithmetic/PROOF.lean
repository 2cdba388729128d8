import PyProof.Rows.All
import Wide.All
import OpenK.AllK
import Wide.FinOn
import HandS.ForMost
import HandS.IsInst
import HandS.Wide
import HandS.WordsExc
import HandS.Defaults
import HandS.HeadHook1
import HandS.HeadHook2
import HandS.Style
import HandS.SetBool
import HandS.TupSets
import HandS.Strs
import HandS.HeadEnd
import HandS.Ends
import HandS.SortRule
import KE.KStateDown
import HandS.Head0
import HandS.Head1
import HandS.Head2
import PyProof.ReprLen
import PyProof.Rows.RegStrFacts
import PySem.Challenge.RW_laprunners_k01_arithmetic
set_option Elab.async false
set_option linter.all false
set_option maxRecDepth 100000
set_option maxHeartbeats 0
namespace Tp
open PySem PySem.Spec PyProof.Rows L2

/-! ### data in the heap -/
mutual
inductive Is (H : Hp) : V → PyData → Prop
  | non : Is H .non .none
  | bl (b : Bool) : Is H (.bl b) (.bool b)
  | int (i : Int) : Is H (.int i) (.int i)
  | str (x : Str) : Is H (.str x) (.str x)
  | lst {a : Addr} {xs : List V} {ds : List PyData} (h : H a = some (.lst xs)) (r : IsL H xs ds) : Is H (.ref a) (.list ds)
  | tup {a : Addr} {xs : List V} {ds : List PyData} (h : H a = some (.tup xs)) (r : IsL H xs ds) : Is H (.ref a) (.tuple ds)
inductive IsL (H : Hp) : List V → List PyData → Prop
  | nil : IsL H [] []
  | cons {v : V} {vs : List V} {d : PyData} {ds : List PyData} (h : Is H v d) (t : IsL H vs ds) : IsL H (v :: vs) (d :: ds)
end
mutual
theorem Is.up {H H' : Hp} (e : Same H H') : ∀ (d : PyData) (v : V), Is H v d → Is H' v d
  | .none, _, h => by cases h; exact .non
  | .bool _, _, h => by cases h; exact .bl _
  | .int _, _, h => by cases h; exact .int _
  | .str _, _, h => by cases h; exact .str _
  | .list ds, _, h => by
    cases h with
    | lst h r => exact .lst (e _ _ h) (IsL.up e ds _ r)
  | .tuple ds, _, h => by
    cases h with
    | tup h r => exact .tup (e _ _ h) (IsL.up e ds _ r)
  | .dict _, _, h => by cases h
theorem IsL.up {H H' : Hp} (e : Same H H') : ∀ (ds : List PyData) (vs : List V), IsL H vs ds → IsL H' vs ds
  | [], _, h => by cases h; exact .nil
  | d :: ds, _, h => by
    cases h with
    | cons h t => exact .cons (Is.up e d _ h) (IsL.up e ds _ t)
end
mutual
theorem Is.dp {K : PySem.W.Frag} {H : Hp} : ∀ (d : PyData) (v : V), Is H v d → Dp K H v d
  | .none, _, h => by cases h; exact .non
  | .bool _, _, h => by cases h; exact .bl _
  | .int _, _, h => by cases h; exact .int _
  | .str _, _, h => by cases h; exact .str _
  | .list ds, _, h => by
    cases h with
    | lst h r => exact .lst (SqL.of h) (IsL.dp ds _ r)
  | .tuple ds, _, h => by
    cases h with
    | tup h r => exact .tup (SqT.of h) (IsL.dp ds _ r)
  | .dict _, _, h => by cases h
theorem IsL.dp {K : PySem.W.Frag} {H : Hp} : ∀ (ds : List PyData) (vs : List V), IsL H vs ds → DpAll K H vs ds
  | [], _, h => by cases h; exact .nil
  | d :: ds, _, h => by
    cases h with
    | cons h t => exact .cons (Is.dp d _ h) (IsL.dp ds _ t)
end
theorem IsL.length {H : Hp} : ∀ {ds : List PyData} {vs : List V}, IsL H vs ds → vs.length = ds.length
  | [], _, h => by cases h; rfl
  | d :: ds, _, h => by
    cases h with
    | cons h t => rw [List.length_cons, List.length_cons, t.length]
theorem IsL.get {H : Hp} : ∀ {ds : List PyData} {vs : List V} {i : Nat} {v : V}, IsL H vs ds → vs[i]? = some v → ∃ d, ds[i]? = some d ∧ Is H v d
  | [], _, i, v, h, e => by cases h; simp at e
  | d :: ds, _, 0, v, h, e => by
    cases h with
    | cons h t => simp at e; subst e; exact ⟨d, rfl, h⟩
  | d :: ds, _, i + 1, v, h, e => by
    cases h with
    | cons h t =>
      obtain ⟨d', e', r⟩ := IsL.get (i := i) t (by simpa using e)
      exact ⟨d', by simpa using e', r⟩
theorem IsL.at {H : Hp} {ds : List PyData} {vs : List V} {i : Nat} {d : PyData} (h : IsL H vs ds) (e : ds[i]? = some d) : ∃ v, vs[i]? = some v ∧ Is H v d := by
  have hi : i < ds.length := (List.getElem?_eq_some_iff.mp e).1
  have hv : i < vs.length := by rw [h.length]; exact hi
  obtain ⟨d', e', r⟩ := h.get (List.getElem?_eq_getElem hv)
  rw [e] at e'
  cases e'
  exact ⟨_, List.getElem?_eq_getElem hv, r⟩
theorem IsL.snoc {H : Hp} : ∀ {ds : List PyData} {vs : List V} {d : PyData} {v : V}, IsL H vs ds → Is H v d → IsL H (vs ++ [v]) (ds ++ [d])
  | [], _, d, v, h, r => by cases h; exact .cons r .nil
  | _ :: ds, _, d, v, h, r => by
    cases h with
    | cons h t => exact .cons h (t.snoc r)
theorem IsL.app {H : Hp} : ∀ {ds es : List PyData} {vs us : List V}, IsL H vs ds → IsL H us es → IsL H (vs ++ us) (ds ++ es)
  | [], _, _, _, h, r => by cases h; exact r
  | _ :: ds, _, _, _, h, r => by
    cases h with
    | cons h t => exact .cons h (t.app r)
theorem IsL.ints {H : Hp} : ∀ {ns : List Int} {vs : List V}, IsL H vs (ns.map PyData.int) → vs = ns.map V.int
  | [], _, h => by cases h; rfl
  | n :: ns, _, h => by
    cases h with
    | cons h t => cases h; rw [IsL.ints t]; rfl
theorem IsL.of_ints {H : Hp} : ∀ ns : List Int, IsL H (ns.map V.int) (ns.map PyData.int)
  | [] => .nil
  | n :: ns => .cons (.int n) (IsL.of_ints ns)
theorem IsL.strs {H : Hp} : ∀ {ns : List Str} {vs : List V}, IsL H vs (ns.map PyData.str) → vs = ns.map V.str
  | [], _, h => by cases h; rfl
  | n :: ns, _, h => by
    cases h with
    | cons h t => cases h; rw [IsL.strs t]; rfl
theorem IsL.bools {H : Hp} : ∀ {ns : List Bool} {vs : List V}, IsL H vs (ns.map PyData.bool) → vs = ns.map V.bl
  | [], _, h => by cases h; rfl
  | n :: ns, _, h => by
    cases h with
    | cons h t => cases h; rw [IsL.bools t]; rfl

/-! ### what is known of a value, kept while the heap grows -/
structure VR where
  p : V → Hp → Prop
  m : ∀ {v : V} {H H' : Hp}, Same H H' → p v H → p v H'
def Dv (d : PyData) : VR := ⟨fun v H => Is H v d, fun e h => Is.up e d _ h⟩
def Sv (u : V) : VR := ⟨fun v _ => v = u, fun _ h => h⟩
/-- some x has it -/
def Exi {α : Type} (f : α → VR) : VR := ⟨fun v H => ∃ x, (f x).p v H, fun e ⟨x, h⟩ => ⟨x, (f x).m e h⟩⟩
/-- the script: a list of ints, read only -/
def Scr (K : PySem.W.Frag) (ns : List Int) : VR := ⟨fun v H => ∃ a, v = .ref a ∧ SqL K H a (ns.map V.int), fun e ⟨a, h, q⟩ => ⟨a, h, e.seq q⟩⟩
abbrev In (n : Int) : VR := Dv (.int n)
abbrev Bo (b : Bool) : VR := Dv (.bool b)
abbrev No : VR := Dv .none
abbrev St' (x : Str) : VR := Dv (.str x)
abbrev Ls (ds : List PyData) : VR := Dv (.list ds)
abbrev Tu (ds : List PyData) : VR := Dv (.tuple ds)
/-- what is known of an object of our own -/
structure HR where
  p : HO → Hp → Prop
  m : ∀ {o : HO} {H H' : Hp}, Same H H' → p o H → p o H'
def LsO (ds : List PyData) : HR := ⟨fun o H => ∃ xs, o = .lst xs ∧ IsL H xs ds, fun e ⟨xs, h, r⟩ => ⟨xs, h, IsL.up e ds _ r⟩⟩
abbrev Own := List (Addr × HR)
abbrev Ctx := List (Option VR)
/-- the entry: what was known, the heap, what may be written -/
structure Fm where
  G0 : Hp
  H0 : Hp
  P : Addr → Prop
structure FrOk (F : Fm) (O : Own) (G H : Hp) : Prop where
  g : Same F.G0 G
  gh : Same G H
  keep : ∀ a o, ¬ F.P a → F.H0 a = some o → H a = some o
  there : ∀ a, H a = none → F.H0 a = none
  sep : ∀ a o, G a = some o → F.G0 a = some o ∨ F.H0 a = none
  own : ∀ c ∈ O, (∃ o, H c.1 = some o ∧ c.2.p o G) ∧ G c.1 = none ∧ (F.P c.1 ∨ F.H0 c.1 = none)
  nd : (O.map (·.1)).Nodup
  pex : ∀ a, F.P a → F.H0 a ≠ none
structure Sta (F : Fm) (C : Ctx) (O : Own) (σ : L2.St) (G H : Hp) : Prop where
  fr : FrOk F O G H
  len : σ.length = C.length
  slot : ∀ (i : Nat) (R : VR), C[i]? = some (some R) → ∃ v, σ[i]? = some (some v) ∧ R.p v G

section
variable {F : Fm} {C C' : Ctx} {O O' : Own} {σ : L2.St} {G H G' H' : Hp}
/-- a new object goes to what is known -/
theorem FrOk.new (f : FrOk F O G H) {p : Addr} {o : HO} (hp : H p = none) : FrOk F O (upd G p o) (upd H p o) := by
  have hG : G p = none := by
    cases q : G p with
    | none => rfl
    | some u => rw [f.gh p u q] at hp; cases hp
  have hne : ∀ c ∈ O, c.1 ≠ p := fun c hc e => by
    obtain ⟨⟨o', h1, _⟩, _⟩ := f.own c hc
    rw [e, hp] at h1; cases h1
  have s1 : Same G (upd G p o) := fun b u q => by rw [upd_ne (ne_of_none q hG)]; exact q
  refine ⟨f.g.trans s1, fun b u q => ?_, fun a u h1 h2 => ?_, fun a h => ?_, fun a u h => ?_, fun c hc => ?_, f.nd, f.pex⟩
  · by_cases e : b = p
    · subst e; rw [upd_same] at q ⊢; exact q
    · rw [upd_ne e] at q ⊢; exact f.gh b u q
  · have := f.keep a u h1 h2
    rw [upd_ne (ne_of_none this hp)]; exact this
  · by_cases e : a = p
    · subst e; rw [upd_same] at h; cases h
    · rw [upd_ne e] at h; exact f.there a h
  · by_cases e : a = p
    · subst e; exact .inr (f.there a hp)
    · rw [upd_ne e] at h; exact f.sep a u h
  · obtain ⟨⟨o', h1, h2⟩, h3, h4⟩ := f.own c hc
    refine ⟨⟨o', by rw [upd_ne (hne c hc)]; exact h1, c.2.m s1 h2⟩, by rw [upd_ne (hne c hc)]; exact h3, h4⟩
/-- a new object is our own -/
theorem FrOk.mine (f : FrOk F O G H) {p : Addr} {o : HO} {R : HR} (hp : H p = none) (r : R.p o G) : FrOk F ((p, R) :: O) G (upd H p o) := by
  have hG : G p = none := by
    cases q : G p with
    | none => rfl
    | some u => rw [f.gh p u q] at hp; cases hp
  have hne : ∀ c ∈ O, c.1 ≠ p := fun c hc e => by
    obtain ⟨⟨o', h1, _⟩, _⟩ := f.own c hc
    rw [e, hp] at h1; cases h1
  refine ⟨f.g, fun b u q => ?_, fun a u h1 h2 => ?_, fun a h => ?_, f.sep, fun c hc => ?_, ?_, f.pex⟩
  · rw [upd_ne (ne_of_none q hG)]; exact f.gh b u q
  · have := f.keep a u h1 h2
    rw [upd_ne (ne_of_none this hp)]; exact this
  · by_cases e : a = p
    · subst e; rw [upd_same] at h; cases h
    · rw [upd_ne e] at h; exact f.there a h
  · rcases List.mem_cons.mp hc with e | hc
    · subst e
      exact ⟨⟨o, upd_same, r⟩, hG, .inr (f.there p hp)⟩
    · obtain ⟨⟨o', h1, h2⟩, h3, h4⟩ := f.own c hc
      exact ⟨⟨o', by rw [upd_ne (hne c hc)]; exact h1, h2⟩, h3, h4⟩
  · show (p :: O.map (·.1)).Nodup
    refine List.nodup_cons.mpr ⟨fun hm => ?_, f.nd⟩
    obtain ⟨c, hc, e⟩ := List.mem_map.mp hm
    exact hne c hc e
/-- our own at the head is written -/
theorem FrOk.put {p : Addr} {R R' : HR} (f : FrOk F ((p, R) :: O) G H) {o : HO} (r : R'.p o G) : FrOk F ((p, R') :: O) G (upd H p o) := by
  obtain ⟨⟨o1, h1, _⟩, hG, hP⟩ := f.own (p, R) List.mem_cons_self
  have nd := f.nd
  have hnd : p ∉ O.map (·.1) := (List.nodup_cons.mp (show (p :: O.map (·.1)).Nodup from nd)).1
  refine ⟨f.g, fun b u q => ?_, fun a u h2 h3 => ?_, fun a h => ?_, f.sep, fun c hc => ?_, nd, f.pex⟩
  · rw [upd_ne (ne_of_none q hG)]; exact f.gh b u q
  · have e : a ≠ p := fun e => by
      rw [e] at h2 h3
      rcases hP with z | z
      · exact h2 z
      · have z : F.H0 p = none := z
        rw [z] at h3; cases h3
    rw [upd_ne e]; exact f.keep a u h2 h3
  · by_cases e : a = p
    · subst e; rw [upd_same] at h; cases h
    · rw [upd_ne e] at h; exact f.there a h
  · rcases List.mem_cons.mp hc with e | hc'
    · subst e
      exact ⟨⟨o, upd_same, r⟩, hG, hP⟩
    · obtain ⟨⟨o', h1', h2⟩, h3, h4⟩ := f.own c (List.mem_cons_of_mem _ hc')
      have e : c.1 ≠ p := fun e => hnd (List.mem_map.mpr ⟨c, hc', e⟩)
      exact ⟨⟨o', by rw [upd_ne e]; exact h1', h2⟩, h3, h4⟩
/-- our own becomes known -/
theorem FrOk.freeze {p : Addr} {R : HR} (f : FrOk F ((p, R) :: O) G H) (hH0 : F.H0 p = none) : ∃ o, H p = some o ∧ R.p o G ∧ G p = none ∧ FrOk F O (upd G p o) H := by
  obtain ⟨⟨o, h1, r⟩, hG, hP⟩ := f.own (p, R) List.mem_cons_self
  have nd := f.nd
  obtain ⟨hnd, nd'⟩ := List.nodup_cons.mp (show (p :: O.map (·.1)).Nodup from nd)
  have s1 : Same G (upd G p o) := fun b u q => by rw [upd_ne (ne_of_none q hG)]; exact q
  refine ⟨o, h1, r, hG, f.g.trans s1, fun b u q => ?_, f.keep, f.there, fun a u h => ?_, fun c hc => ?_, nd', f.pex⟩
  · by_cases e : b = p
    · subst e; rw [upd_same] at q; cases q; exact h1
    · rw [upd_ne e] at q; exact f.gh b u q
  · by_cases e : a = p
    · subst e; exact .inr hH0
    · rw [upd_ne e] at h; exact f.sep a u h
  · obtain ⟨⟨o', h1', h2⟩, h3, h4⟩ := f.own c (List.mem_cons_of_mem _ hc)
    have e : c.1 ≠ p := fun e => hnd (List.mem_map.mpr ⟨c, hc, e⟩)
    exact ⟨⟨o', h1', c.2.m s1 h2⟩, by rw [upd_ne e]; exact h3, h4⟩
/-- an own object forgotten -/
theorem FrOk.drop {c : Addr × HR} (f : FrOk F (c :: O) G H) : FrOk F O G H :=
  ⟨f.g, f.gh, f.keep, f.there, f.sep, fun d hd => f.own d (List.mem_cons_of_mem _ hd), (List.nodup_cons.mp (show (c.1 :: O.map (·.1)).Nodup from f.nd)).2, f.pex⟩
theorem FrOk.perm (f : FrOk F O G H) (h : O.Perm O') : FrOk F O' G H :=
  ⟨f.g, f.gh, f.keep, f.there, f.sep, fun d hd => f.own d (h.mem_iff.mpr hd), (h.map _).nodup_iff.mp f.nd, f.pex⟩
/-- behind a callee that started here with O as its own, O2 beside -/
theorem FrOk.call {O1 O1' O2 : Own} (f : FrOk F (O1 ++ O2) G H) (g : FrOk ⟨G, H, fun a => a ∈ O1.map (·.1)⟩ O1' G' H') : FrOk F (O1' ++ O2) G' H' := by
  have nd := f.nd
  rw [List.map_append] at nd
  obtain ⟨nd1, nd2, dj⟩ := List.nodup_append.mp nd
  have notin : ∀ a o, ¬ F.P a → F.H0 a = some o → a ∉ O1.map (·.1) := fun a o h1 h2 hm => by
    obtain ⟨c, hc, e⟩ := List.mem_map.mp hm
    obtain ⟨_, _, h4⟩ := f.own c (List.mem_append_left _ hc)
    rw [e] at h4
    rcases h4 with z | z
    · exact h1 z
    · rw [h2] at z; cases z
  have back : ∀ a, H a = none → F.H0 a = none := f.there
  have a1 : ∀ a, a ∈ O1.map (·.1) → (F.P a ∨ F.H0 a = none) ∧ G a = none := fun a hm => by
    obtain ⟨c, hc, e⟩ := List.mem_map.mp hm
    obtain ⟨_, h3, h4⟩ := f.own c (List.mem_append_left _ hc)
    rw [← e]; exact ⟨h4, h3⟩
  refine ⟨f.g.trans g.g, g.gh, fun a o h1 h2 => ?_, fun a h => back a (g.there a h), fun a o h => ?_, fun c hc => ?_, ?_, f.pex⟩
  · exact g.keep a o (notin a o h1 h2) (f.keep a o h1 h2)
  · rcases g.sep a o h with z | z
    · exact f.sep a o z
    · exact .inr (back a z)
  · rcases List.mem_append.mp hc with hc | hc
    · obtain ⟨h1, h2, h3⟩ := g.own c hc
      refine ⟨h1, h2, ?_⟩
      rcases h3 with z | z
      · exact (a1 _ z).1
      · exact .inr (back _ z)
    · obtain ⟨⟨o, h1, h2⟩, h3, h4⟩ := f.own c (List.mem_append_right _ hc)
      have hn : c.1 ∉ O1.map (·.1) := fun hm => dj _ hm _ (List.mem_map.mpr ⟨c, hc, rfl⟩) rfl
      refine ⟨⟨o, g.keep _ _ hn h1, c.2.m g.g h2⟩, ?_, h4⟩
      cases q : G' c.1 with
      | none => rfl
      | some u =>
        rcases g.sep _ _ q with z | z
        · have z : G c.1 = some u := z
          rw [h3] at z; cases z
        · have z : H c.1 = none := z
          rw [h1] at z; cases z
  · rw [List.map_append]
    refine List.nodup_append.mpr ⟨g.nd, nd2, fun a ha b hb e => ?_⟩
    subst e
    obtain ⟨c, hc, e⟩ := List.mem_map.mp ha
    obtain ⟨_, _, h3⟩ := g.own c hc
    rw [e] at h3
    rcases h3 with z | z
    · exact dj _ z _ hb rfl
    · obtain ⟨d, hd, e2⟩ := List.mem_map.mp hb
      obtain ⟨⟨o, h1, _⟩, _⟩ := f.own d (List.mem_append_right _ hd)
      have z : H a = none := z
      rw [e2, z] at h1; cases h1
/-- where a callee starts -/
theorem FrOk.start {O1 O2 : Own} (f : FrOk F (O1 ++ O2) G H) : FrOk ⟨G, H, fun a => a ∈ O1.map (·.1)⟩ O1 G H := by
  have nd := f.nd
  rw [List.map_append] at nd
  refine ⟨Same.refl G, f.gh, fun a o _ h => h, fun a h => h, fun a o h => .inl h, fun c hc => ?_, (List.nodup_append.mp nd).1, fun a hm => ?_⟩
  · obtain ⟨h1, h2, _⟩ := f.own c (List.mem_append_left _ hc)
    exact ⟨h1, h2, .inl (List.mem_map.mpr ⟨c, hc, rfl⟩)⟩
  · obtain ⟨c, hc, e⟩ := List.mem_map.mp hm
    obtain ⟨⟨o, h1, _⟩, _⟩ := f.own c (List.mem_append_left _ hc)
    show H a ≠ none
    rw [← e, h1]
    intro z
    cases z
theorem Sta.up (E : Sta F C O σ G H) (f : FrOk F O' G' H') (s : Same G G') : Sta F C O' σ G' H' :=
  ⟨f, E.len, fun i R h => let ⟨v, e, p⟩ := E.slot i R h; ⟨v, e, R.m s p⟩⟩
theorem Sta.set (E : Sta F C O σ G H) {i : Nat} {R : VR} {v : V} (p : R.p v G) : Sta F (C.set i (some R)) O (σ.set i (some v)) G H := by
  refine ⟨E.fr, by rw [List.length_set, List.length_set]; exact E.len, fun j S h => ?_⟩
  by_cases e : i = j
  · subst e
    by_cases hl : i < C.length
    · rw [List.getElem?_set_self hl] at h
      cases h
      exact ⟨v, by rw [List.getElem?_set_self (by rw [E.len]; exact hl)], p⟩
    · rw [List.getElem?_eq_none (by rw [List.length_set]; omega)] at h; cases h
  · rw [List.getElem?_set_ne e] at h ⊢
    exact E.slot j S h
/-- less is known -/
def Sub (C C' : Ctx) : Prop := C.length = C'.length ∧ ∀ (i : Nat) (R : VR), C'[i]? = some (some R) → ∃ S : VR, C[i]? = some (some S) ∧ ∀ v H, S.p v H → R.p v H
theorem Sub.refl (C : Ctx) : Sub C C := ⟨rfl, fun i R h => ⟨R, h, fun _ _ z => z⟩⟩
theorem Sub.nil : Sub [] [] := Sub.refl _
theorem Sub.keep {C C' : Ctx} {x : Option VR} (s : Sub C C') : Sub (x :: C) (x :: C') := by
  refine ⟨by rw [List.length_cons, List.length_cons, s.1], fun i R h => ?_⟩
  cases i with
  | zero => exact ⟨R, by simpa using h, fun _ _ z => z⟩
  | succ i =>
    obtain ⟨S, e, k⟩ := s.2 i R (by simpa using h)
    exact ⟨S, by simpa using e, k⟩
theorem Sub.forget {C C' : Ctx} {x : Option VR} (s : Sub C C') : Sub (x :: C) (none :: C') := by
  refine ⟨by rw [List.length_cons, List.length_cons, s.1], fun i R h => ?_⟩
  cases i with
  | zero => simp at h
  | succ i =>
    obtain ⟨S, e, k⟩ := s.2 i R (by simpa using h)
    exact ⟨S, by simpa using e, k⟩
theorem Sub.weak {C C' : Ctx} {R S : VR} (k : ∀ v H, S.p v H → R.p v H) (s : Sub C C') : Sub (some S :: C) (some R :: C') := by
  refine ⟨by rw [List.length_cons, List.length_cons, s.1], fun i T h => ?_⟩
  cases i with
  | zero =>
    have e : R = T := by simpa using h
    subst e
    exact ⟨S, by simp, k⟩
  | succ i =>
    obtain ⟨S', e, k'⟩ := s.2 i T (by simpa using h)
    exact ⟨S', by simpa using e, k'⟩
theorem Sta.sub (E : Sta F C O σ G H) (s : Sub C C') : Sta F C' O σ G H :=
  ⟨E.fr, E.len.trans s.1, fun i R h => by
    obtain ⟨S, e, k⟩ := s.2 i R h
    obtain ⟨v, ev, p⟩ := E.slot i S e
    exact ⟨v, ev, k v G p⟩⟩
/-- the block's own names forgotten -/
def wipeC (C : Ctx) : List Nat → Ctx
  | [] => C
  | v :: vs => (wipeC C vs).set v none
theorem Sta.unset (E : Sta F C O σ G H) (i : Nat) : Sta F (C.set i none) O (σ.set i none) G H := by
  refine ⟨E.fr, by rw [List.length_set, List.length_set]; exact E.len, fun j S h => ?_⟩
  by_cases e : i = j
  · subst e
    by_cases hl : i < C.length
    · rw [List.getElem?_set_self hl] at h; cases h
    · rw [List.getElem?_eq_none (by rw [List.length_set]; omega)] at h; cases h
  · rw [List.getElem?_set_ne e] at h ⊢
    exact E.slot j S h
theorem Sta.wipe (E : Sta F C O σ G H) : ∀ vs : List Nat, Sta F (wipeC C vs) O (L2.wipe σ vs) G H
  | [] => E
  | v :: vs => (E.wipe vs).unset v
end
end Tp

namespace Tp
open PySem PySem.Spec PyProof.Rows L2

/-! ### what a piece of text does, from a state on -/
def RunE (X : Cx) (e : Expr) (σ : L2.St) (H : Hp) (Q : VK) : Prop :=
  ∀ (pins : List (Addr × Obj)) (s : Shared), Inv X pins σ H s → wpAny (model X.prog X.w) X.A (eval e X.env) (EP X pins σ Q) X.xe s
theorem pe_run {X : Cx} {e : Expr} : PE X e (RunE X e) := ⟨fun pins s _ _ _ I h => h pins s I⟩
def RunT (X : Cx) (e : Expr) (σ : L2.St) (H : Hp) (Q : Bool → Hp → Prop) : Prop :=
  ∀ (pins : List (Addr × Obj)) (s : Shared), Inv X pins σ H s → wpAny (model X.prog X.w) X.A (isTrue e X.env (eval e X.env)) (TP X pins σ Q) X.xe s
theorem pt_run {X : Cx} {e : Expr} : PT X e (RunT X e) := ⟨fun pins s _ _ _ I h => h pins s I⟩
def RunW (X : Cx) (e : Expr) (σ : L2.St) (H : Hp) (Q : Bool → Hp → Prop) : Prop :=
  ∀ (wh : Sem Value) (pins : List (Addr × Obj)) (s : Shared), Inv X pins σ H s → wpAny (model X.prog X.w) X.A (isTrue e X.env wh) (TP X pins σ Q) X.xe s
theorem pw_run {X : Cx} {e : Expr} : PW X e (RunW X e) := ⟨fun wh pins s _ _ _ I h => h wh pins s I⟩
def RunA (X : Cx) (es : List Expr) (σ : L2.St) (H : Hp) (Q : List V → Hp → Prop) : Prop :=
  ∀ (pos : Pos) (pins : List (Addr × Obj)) (s : Shared), Inv X pins σ H s → wpAny (model X.prog X.w) X.A (spliced (backTo pos (starEach es X.env))) (AP X pins σ Q) X.xe s
theorem pa_run {X : Cx} {es : List Expr} : PA X es (RunA X es) := ⟨fun pos pins s _ _ _ I h => h pos pins s I⟩
def RunS (X : Cx) (st : Stmt) (D : Ends) (σ : L2.St) (H : Hp) : Prop :=
  ∀ (pins : List (Addr × Obj)) (s : Shared), Inv X pins σ H s → wpAny (model X.prog X.w) X.A (exec st X.env) (SP X pins D) X.xe s
theorem ps_run {X : Cx} {st : Stmt} : PS X st (RunS X st) := ⟨fun pins s _ _ _ I h => h pins s I⟩
def RunB (X : Cx) (st : List Stmt) (D : Ends) (σ : L2.St) (H : Hp) : Prop :=
  ∀ (pins : List (Addr × Obj)) (s : Shared), Inv X pins σ H s → wpAny (model X.prog X.w) X.A (execs st X.env) (SP X pins D) X.xe s
theorem pb_run {X : Cx} {st : List Stmt} : PSs X st (RunB X st) := ⟨fun pins s _ _ _ I h => h pins s I⟩
def RunG (X : Cx) (tg : Expr) (v : V) (σ : L2.St) (H : Hp) (Q : L2.St → Hp → Prop) : Prop :=
  ∀ (pins : List (Addr × Obj)) (s : Shared) (u : Value), Inv X pins σ H s → RelV v u → wpAny (model X.prog X.w) X.A (assign tg X.env u) (fun _ s' => ∃ σ' H', Inv X pins σ' H' s' ∧ Q σ' H') X.xe s
theorem pg_run {X : Cx} {tg : Expr} : PG X tg (RunG X tg) := ⟨fun pins s _ _ _ u _ I r h => h pins s u I r⟩
def RunGs (X : Cx) (ts : List Expr) (vs : List V) (σ : L2.St) (H : Hp) (Q : L2.St → Hp → Prop) : Prop :=
  ∀ (pins : List (Addr × Obj)) (s : Shared) (us : List Value), Inv X pins σ H s → Vals vs us → wpAny (model X.prog X.w) X.A (assignInOrder ((assignEach ts X.env).map (·.2)) us) (fun _ s' => ∃ σ' H', Inv X pins σ' H' s' ∧ Q σ' H') X.xe s
theorem pgs_run {X : Cx} {ts : List Expr} : PGs X ts (RunGs X ts) := ⟨fun pins s _ _ _ us _ I r h => h pins s us I r⟩
section
variable {X : Cx} {e : Expr} {es : List Expr} {st : Stmt} {sts : List Stmt} {σ : L2.St} {H : Hp} {D : Ends}
theorem PE.go {t : TE} {Q : VK} (h : PE X e t) (q : t σ H Q) : RunE X e σ H Q := fun pins s I => h.run pins s σ H Q I q
theorem PT.go {t : TT} {Q : Bool → Hp → Prop} (h : PT X e t) (q : t σ H Q) : RunT X e σ H Q := fun pins s I => h.run pins s σ H Q I q
theorem PW.go {t : TT} {Q : Bool → Hp → Prop} (h : PW X e t) (q : t σ H Q) : RunW X e σ H Q := fun wh pins s I => h.run wh pins s σ H Q I q
theorem PA.go {t : TA} {Q : List V → Hp → Prop} (h : PA X es t) (q : t σ H Q) : RunA X es σ H Q := fun pos pins s I => h.run pos pins s σ H Q I q
theorem PS.go {t : TS} (h : PS X st t) (q : t D σ H) : RunS X st D σ H := fun pins s I => h.run pins s σ H D I q
theorem PSs.go {t : TS} (h : PSs X sts t) (q : t D σ H) : RunB X sts D σ H := fun pins s I => h.run pins s σ H D I q
theorem PG.go {tg : Expr} {t : TG} {v : V} {Q : L2.St → Hp → Prop} (h : PG X tg t) (q : t v σ H Q) : RunG X tg v σ H Q := fun pins s u I r => h.run pins s σ H v u Q I r q
theorem PGs.go {ts : List Expr} {t : TGs} {vs : List V} {Q : L2.St → Hp → Prop} (h : PGs X ts t) (q : t vs σ H Q) : RunGs X ts vs σ H Q := fun pins s us I r => h.run pins s σ H vs us Q I r q
end

/-! ### judgements -/
inductive FaR (G : Hp) : List VR → List V → Prop
  | nil : FaR G [] []
  | cons {R : VR} {Rs : List VR} {v : V} {vs : List V} (h : R.p v G) (t : FaR G Rs vs) : FaR G (R :: Rs) (v :: vs)
theorem FaR.up {G G' : Hp} (e : Same G G') {Rs : List VR} {vs : List V} (h : FaR G Rs vs) : FaR G' Rs vs := by
  induction h with
  | nil => exact .nil
  | cons h _ ih => exact .cons (VR.m _ e h) ih
theorem FaR.length {G : Hp} {Rs : List VR} {vs : List V} (h : FaR G Rs vs) : vs.length = Rs.length := by
  induction h with
  | nil => rfl
  | cons _ _ ih => rw [List.length_cons, List.length_cons, ih]
/-- e gives a value of which R is known -/
def HE (X : Cx) (F : Fm) (C : Ctx) (O : Own) (e : Expr) (R : VR) (O' : Own) : Prop :=
  ∀ σ G H Q, Sta F C O σ G H → (∀ v G' H', Same G G' → Sta F C O' σ G' H' → R.p v G' → Q v H') → RunE X e σ H Q
/-- e gives a new list, our own -/
def HL (X : Cx) (F : Fm) (C : Ctx) (O : Own) (e : Expr) (ds : List PyData) (O' : Own) : Prop :=
  ∀ σ G H Q, Sta F C O σ G H → (∀ a G' H', Same G G' → F.H0 a = none → Sta F C ((a, LsO ds) :: O') σ G' H' → Q (.ref a) H') → RunE X e σ H Q
def HT (X : Cx) (F : Fm) (C : Ctx) (O : Own) (e : Expr) (b : Bool) (O' : Own) : Prop :=
  ∀ σ G H Q, Sta F C O σ G H → (∀ G' H', Same G G' → Sta F C O' σ G' H' → Q b H') → RunT X e σ H Q
def HW (X : Cx) (F : Fm) (C : Ctx) (O : Own) (e : Expr) (b : Bool) (O' : Own) : Prop :=
  ∀ σ G H Q, Sta F C O σ G H → (∀ G' H', Same G G' → Sta F C O' σ G' H' → Q b H') → RunW X e σ H Q
def HA (X : Cx) (F : Fm) (C : Ctx) (O : Own) (es : List Expr) (Rs : List VR) (O' : Own) : Prop :=
  ∀ σ G H Q, Sta F C O σ G H → (∀ vs G' H', Same G G' → Sta F C O' σ G' H' → FaR G' Rs vs → Q vs H') → RunA X es σ H Q
def HG (X : Cx) (F : Fm) (C : Ctx) (tg : Expr) (R : VR) (C' : Ctx) : Prop :=
  ∀ O σ G H v Q, Sta F C O σ G H → R.p v G → (∀ σ', Sta F C' O σ' G H → Q σ' H) → RunG X tg v σ H Q
def HGs (X : Cx) (F : Fm) (C : Ctx) (ts : List Expr) (Rs : List VR) (C' : Ctx) : Prop :=
  ∀ O σ G H vs Q, Sta F C O σ G H → FaR G Rs vs → (∀ σ', Sta F C' O σ' G H → Q σ' H) → RunGs X ts vs σ H Q
inductive Out where
  | nx (C : Ctx) (O : Own)
  | rt (R : VR) (O : Own)
  | rl (ds : List PyData) (O : Own)
  | bk (C : Ctx) (O : Own)
  | ct (C : Ctx) (O : Own)
  | xc (ε : Value → Option Addr → Hp → Prop) (O : Own)
def OutOk (F : Fm) (W : WX) (D : Ends) (G0 : Hp) : Out → Prop
  | .nx C O => ∀ σ G H, Same G0 G → Sta F C O σ G H → D.nx σ H
  | .rt R O => ∀ v G H, Same G0 G → FrOk F O G H → R.p v G → D.rt v H
  | .rl ds O => ∀ a G H, Same G0 G → FrOk F ((a, LsO ds) :: O) G H → F.H0 a = none → D.rt (.ref a) H
  | .bk C O => ∀ σ G H, Same G0 G → Sta F C O σ G H → D.bk σ H
  | .ct C O => ∀ σ G H, Same G0 G → Sta F C O σ G H → D.ct σ H
  | .xc ε O => ∀ cls d σ G H, Same G0 G → FrOk F O G H → ε cls d G → W cls d σ H
theorem OutOk.up {F : Fm} {W : WX} {D : Ends} {G0 G1 : Hp} {o : Out} (k : OutOk F W D G0 o) (s : Same G0 G1) : OutOk F W D G1 o := by
  cases o with
  | nx => exact fun σ G H s1 => k σ G H (s.trans s1)
  | rt => exact fun v G H s1 => k v G H (s.trans s1)
  | rl => exact fun a G H s1 => k a G H (s.trans s1)
  | bk => exact fun σ G H s1 => k σ G H (s.trans s1)
  | ct => exact fun σ G H s1 => k σ G H (s.trans s1)
  | xc => exact fun cls d σ G H s1 => k cls d σ G H (s.trans s1)
def HS (X : Cx) (W : WX) (F : Fm) (C : Ctx) (O : Own) (st : Stmt) (o : Out) : Prop :=
  ∀ σ G H D, Sta F C O σ G H → OutOk F W D G o → RunS X st D σ H
def HB (X : Cx) (W : WX) (F : Fm) (C : Ctx) (O : Own) (sts : List Stmt) (o : Out) : Prop :=
  ∀ σ G H D, Sta F C O σ G H → OutOk F W D G o → RunB X sts D σ H

section
variable {X : Cx} {W : WX} {F : Fm} {C C1 C' : Ctx} {O O1 O2 O3 O' : Own} {e e2 e3 : Expr} {es : List Expr} {R R' S : VR} {Rs : List VR} {pos : Pos} {st : Stmt} {rest body els : List Stmt} {o : Out} {b c : Bool}

theorem HE.mono (h : HE X F C O e R O') (k : ∀ v G, R.p v G → S.p v G) : HE X F C O e S O' := fun σ G H Q E q => h σ G H Q E fun v G' H' s E' p => q v G' H' s E' (k v G' p)
theorem HE.cast (h : HE X F C O e R O') (k : R = S) : HE X F C O e S O' := k ▸ h
theorem HE.is {d d' : PyData} (h : HE X F C O e (Dv d) O') (k : d = d') : HE X F C O e (Dv d') O' := k ▸ h
theorem he_is {d d' : PyData} (h : HE X F C O e (Dv d) O') (k : d = d') : HE X F C O e (Dv d') O' := k ▸ h
theorem ht_is (h : HT X F C O e b O') (k : b = c) : HT X F C O e c O' := k ▸ h
theorem HT.is (h : HT X F C O e b O') (k : b = c) : HT X F C O e c O' := k ▸ h
/-- a state is less known -/
theorem HE.sub (h : HE X F C' O e R O') (s : Sub C C') : ∀ σ G H Q, Sta F C O σ G H → (∀ v G' H', Same G G' → Sta F C' O' σ G' H' → R.p v G' → Q v H') → RunE X e σ H Q := fun σ G H Q E => h σ G H Q (E.sub s)
theorem HB.sub (h : HB X W F C' O rest o) (s : Sub C C') : HB X W F C O rest o := fun σ G H D E => h σ G H D (E.sub s)
/-- something known opened -/
theorem HB.openx {α : Type} {f : α → VR} (i : Nat) (h : ∀ x, HB X W F (C.set i (some (f x))) O rest o) (hi : C[i]? = some (some (Exi f))) : HB X W F C O rest o := fun σ G H D E k => by
  obtain ⟨v, ev, x, p⟩ := E.slot i _ hi
  refine h x σ G H D ?_ k
  have E2 := E.set (i := i) (R := f x) (v := v) p
  have : σ.set i (some v) = σ := by
    apply List.ext_getElem?
    intro j
    by_cases e : i = j
    · subst e
      have hl : i < σ.length := (List.getElem?_eq_some_iff.mp ev).1
      rw [List.getElem?_set_self hl, ev]
    · rw [List.getElem?_set_ne e]
  rwa [this] at E2

/-! ### expressions -/
theorem he_var (i : Nat) {x : Str} (hi : C[i]? = some (some R) := by rfl) (hN : X.N[i]? = some x := by rfl) (hv : Vis X.env.scope x := by first | exact Or.inl rfl | exact Or.inr (Or.inl rfl) | exact Or.inr (Or.inr rfl)) (hd : (x == ("__debug__" : Str)) = false := by decide)
    (hcd : (x == ("__classdict__" : Str)) = false := by decide) : HE X F C O (.Name x pos) R O := fun σ G H Q E k => by
  obtain ⟨v, ev, p⟩ := E.slot i R hi
  exact PE.go (pe_var hN hv hd hcd) ⟨v, ev, k v G H (Same.refl G) E p⟩
theorem he_int {n : Int} {j : Nat} : HE X F C O (.Constant (.int n) j pos) (In n) O := fun σ G H Q E k => PE.go pe_int (k _ G H (Same.refl G) E (.int n))
theorem he_bl {n : Bool} {j : Nat} : HE X F C O (.Constant (.bool n) j pos) (Bo n) O := fun σ G H Q E k => PE.go pe_bl (k _ G H (Same.refl G) E (.bl n))
theorem he_non {j : Nat} : HE X F C O (.Constant .none j pos) No O := fun σ G H Q E k => PE.go pe_non (k _ G H (Same.refl G) E .non)
theorem he_str {x : Str} {j : Nat} : HE X F C O (.Constant (.str x) j pos) (St' x) O := fun σ G H Q E k => PE.go pe_str (k _ G H (Same.refl G) E (.str x))
/-- a constant of the module -/
theorem he_glob {x : Str} {v : V} {u : Value} (hm : X.mg x = some u) (r : RelV v u) (hg : Gl X x := by rfl) (hd : (x == ("__debug__" : Str)) = false := by decide) : HE X F C O (.Name x pos) (Sv v) O :=
  fun σ G H Q E k => PE.go (pe_glob hg hm r hd) (k _ G H (Same.refl G) E rfl)
/-- a built-in's name as a value -/
theorem he_bltn {x : Str} {v : V} {u : Value} (hm : X.mg x = none) (hv : bootBuiltins x = some u) (r : RelV v u) (hg : Gl X x := by rfl) (hn : x ≠ "__name__" := by decide) (hd : (x == ("__debug__" : Str)) = false := by decide) : HE X F C O (.Name x pos) (Sv v) O :=
  fun σ G H Q E k => PE.go (pe_bltn hg hm hv r hn hd) (k _ G H (Same.refl G) E rfl)
/-- an operator by values -/
theorem he_op {op : Operator} {r : R2} {R1 R2' : VR} (ho : OpR X (binaryOp op) r) (h1 : HE X F C O e R1 O1) (h2 : HE X F C O1 e2 R2' O2)
    (hr : ∀ x y G H Q, FrOk F O2 G H → R1.p x G → R2'.p y G → (∀ v G' H', Same G G' → FrOk F O2 G' H' → R.p v G' → Q v H') → r x y H Q) : HE X F C O (.BinOp e op e2 pos) R O2 := fun σ G H Q E k =>
  PE.go (pe_op ho pe_run pe_run) (h1 σ G H _ E fun x G1 H1 s1 E1 p1 => h2 σ G1 H1 _ E1 fun y G2 H2 s2 E2 p2 =>
    hr x y G2 H2 Q E2.fr (R1.m s2 p1) p2 fun v G3 H3 s3 f3 p3 => k v G3 H3 ((s1.trans s2).trans s3) (E2.up f3 s3) p3)
theorem he_un {op : UnaryOp} {r : V → Hp → VK → Prop} {R1 : VR} (ho : UnR X (unaryOp op) r) (h1 : HE X F C O e R1 O1)
    (hr : ∀ x G H Q, FrOk F O1 G H → R1.p x G → (∀ v G' H', Same G G' → FrOk F O1 G' H' → R.p v G' → Q v H') → r x H Q) : HE X F C O (.UnaryOp op e pos) R O1 := fun σ G H Q E k =>
  PE.go (pe_un ho pe_run) (h1 σ G H _ E fun x G1 H1 s1 E1 p1 => hr x G1 H1 Q E1.fr p1 fun v G3 H3 s3 f3 p3 => k v G3 H3 (s1.trans s3) (E1.up f3 s3) p3)
theorem he_cmp {op : CmpOp} {r : R2} {R1 R2' : VR} (ho : OpR X (compareOp op) r) (h1 : HE X F C O e R1 O1) (h2 : HE X F C O1 e2 R2' O2) (hm : behindInMarks op e2 = false)
    (hr : ∀ x y G H Q, FrOk F O2 G H → R1.p x G → R2'.p y G → (∀ v G' H', Same G G' → FrOk F O2 G' H' → R.p v G' → Q v H') → r x y H Q) : HE X F C O (.Compare e [op] [e2] pos) R O2 := fun σ G H Q E k =>
  PE.go (pe_cmpR ho pe_run pe_run hm) (h1 σ G H _ E fun x G1 H1 s1 E1 p1 => h2 σ G1 H1 _ E1 fun y G2 H2 s2 E2 p2 =>
    hr x y G2 H2 Q E2.fr (R1.m s2 p1) p2 fun v G3 H3 s3 f3 p3 => k v G3 H3 ((s1.trans s2).trans s3) (E2.up f3 s3) p3)
theorem ht_cmp {op : CmpOp} {r : R2} {R1 R2' : VR} (ho : OpR X (compareOp op) r) (h1 : HE X F C O e R1 O1) (h2 : HE X F C O1 e2 R2' O2) (hm : behindInMarks op e2 = false)
    (hr : ∀ x y G H Q, FrOk F O2 G H → R1.p x G → R2'.p y G → (∀ v G' H', Same G G' → FrOk F O2 G' H' → (Bo b).p v G' → Q v H') → r x y H Q) : HT X F C O (.Compare e [op] [e2] pos) b O2 := fun σ G H Q E k =>
  PT.go (pt_cmpR ho pe_run pe_run hm) (h1 σ G H _ E fun x G1 H1 s1 E1 p1 => h2 σ G1 H1 _ E1 fun y G2 H2 s2 E2 p2 =>
    hr x y G2 H2 _ E2.fr (R1.m s2 p1) p2 fun v G3 H3 s3 f3 p3 => ⟨b, by cases p3; rfl, k G3 H3 ((s1.trans s2).trans s3) (E2.up f3 s3)⟩)
/-! ints -/
theorem isI {H : Hp} {v : V} {n : Int} (h : Is H v (.int n)) : v = .int n := by cases h; rfl
theorem isB {H : Hp} {v : V} {n : Bool} (h : Is H v (.bool n)) : v = .bl n := by cases h; rfl
theorem isS {H : Hp} {v : V} {n : Str} (h : Is H v (.str n)) : v = .str n := by cases h; rfl
theorem isN {H : Hp} {v : V} (h : Is H v .none) : v = .non := by cases h; rfl
theorem isT {H : Hp} {v : V} {ds : List PyData} (h : Is H v (.tuple ds)) : ∃ a xs, v = .ref a ∧ H a = some (.tup xs) ∧ IsL H xs ds := by
  cases h with
  | tup h r => exact ⟨_, _, rfl, h, r⟩
theorem isL {H : Hp} {v : V} {ds : List PyData} (h : Is H v (.list ds)) : ∃ a xs, v = .ref a ∧ H a = some (.lst xs) ∧ IsL H xs ds := by
  cases h with
  | lst h r => exact ⟨_, _, rfl, h, r⟩
theorem he_intop {op : Operator} {g : Int → Int → Int} {i j : Int} (ho : OpR X (binaryOp op) (rI0 fun i j => .int (g i j))) (h1 : HE X F C O e (In i) O1) (h2 : HE X F C O1 e2 (In j) O2) : HE X F C O (.BinOp e op e2 pos) (In (g i j)) O2 :=
  he_op ho h1 h2 fun x y G H Q f p1 p2 k => ⟨i, j, isI p1, isI p2, k _ G H (Same.refl G) f (.int _)⟩
theorem he_intopC {op : Operator} {c : Int → Int → Prop} {g : Int → Int → Int} {i j : Int} (ho : OpR X (binaryOp op) (rI c fun i j => .int (g i j))) (h1 : HE X F C O e (In i) O1) (h2 : HE X F C O1 e2 (In j) O2) (hc : c i j) : HE X F C O (.BinOp e op e2 pos) (In (g i j)) O2 :=
  he_op ho h1 h2 fun x y G H Q f p1 p2 k => ⟨i, j, isI p1, isI p2, hc, k _ G H (Same.refl G) f (.int _)⟩
theorem he_add {i j : Int} (h1 : HE X F C O e (In i) O1) (h2 : HE X F C O1 e2 (In j) O2) : HE X F C O (.BinOp e .Add e2 pos) (In (i + j)) O2 := he_intop (g := fun i j => i + j) op_add h1 h2
theorem he_sub {i j : Int} (h1 : HE X F C O e (In i) O1) (h2 : HE X F C O1 e2 (In j) O2) : HE X F C O (.BinOp e .Sub e2 pos) (In (i - j)) O2 := he_intop (g := fun i j => i - j) op_sub h1 h2
theorem he_mul {i j : Int} (h1 : HE X F C O e (In i) O1) (h2 : HE X F C O1 e2 (In j) O2) (hc : CMulW i j) : HE X F C O (.BinOp e .Mult e2 pos) (In (i * j)) O2 := he_intopC (g := fun i j => i * j) op_mulW h1 h2 hc
/-- * by a small factor, left or right -/
theorem he_mulS {i j : Int} (h1 : HE X F C O e (In i) O1) (h2 : HE X F C O1 e2 (In j) O2) (hc : CMul i j) : HE X F C O (.BinOp e .Mult e2 pos) (In (i * j)) O2 := he_intopC (g := fun i j => i * j) op_mul h1 h2 hc
theorem he_fdiv {i j : Int} (h1 : HE X F C O e (In i) O1) (h2 : HE X F C O1 e2 (In j) O2) (hc : CDivW i j) : HE X F C O (.BinOp e .FloorDiv e2 pos) (In (i / j)) O2 := he_intopC (g := fun i j => i / j) op_fdivW h1 h2 hc
def CDivG (_ j : Int) : Prop := j ≠ 0 ∧ j.natAbs.log2 < 9000
theorem op_fdivG : OpR X (binaryOp .FloorDiv) (rI CDivG fun i j => .int (i.fdiv j)) := opI fun _ _ _ _ _ _ _ hc q => floordiv_int hc.1 q (.inl (PyProof.noPylong_of_log2 hc.2))
theorem he_fdivG {i j : Int} (h1 : HE X F C O e (In i) O1) (h2 : HE X F C O1 e2 (In j) O2) (hc : CDivG i j) : HE X F C O (.BinOp e .FloorDiv e2 pos) (In (i.fdiv j)) O2 := he_intopC (g := fun i j => i.fdiv j) op_fdivG h1 h2 hc
theorem he_mod {i j : Int} (h1 : HE X F C O e (In i) O1) (h2 : HE X F C O1 e2 (In j) O2) (hc : 0 < j) : HE X F C O (.BinOp e .Mod e2 pos) (In (i % j)) O2 := he_intopC (c := fun _ j => 0 < j) (g := fun i j => i % j) op_mod h1 h2 hc
theorem he_modG {i j : Int} (h1 : HE X F C O e (In i) O1) (h2 : HE X F C O1 e2 (In j) O2) (hc : j ≠ 0) : HE X F C O (.BinOp e .Mod e2 pos) (In (i.fmod j)) O2 := he_intopC (c := fun _ j => j ≠ 0) (g := fun i j => i.fmod j) op_modN h1 h2 hc
theorem he_pow {i j : Int} (h1 : HE X F C O e (In i) O1) (h2 : HE X F C O1 e2 (In j) O2) (hc : CPow i j) : HE X F C O (.BinOp e .Pow e2 pos) (In (i ^ j.toNat)) O2 := he_intopC (g := fun i j => i ^ j.toNat) op_pow h1 h2 hc
theorem he_neg {i : Int} (h1 : HE X F C O e (In i) O1) : HE X F C O (.UnaryOp .USub e pos) (In (-i)) O1 :=
  he_un un_neg h1 fun x G H Q f p k => ⟨i, isI p, k _ G H (Same.refl G) f (.int _)⟩
/-! comparisons of ints -/
def cmpI : CmpOp → Int → Int → Bool
  | .Lt, i, j => decide (i < j)
  | .LtE, i, j => decide (i ≤ j)
  | .Gt, i, j => decide (j < i)
  | .GtE, i, j => decide (j ≤ i)
  | .Eq, i, j => decide (i = j)
  | .NotEq, i, j => !decide (i = j)
  | _, _, _ => false
theorem dec_inj {i j : Int} : decide (V.int i = V.int j) = decide (i = j) := by
  by_cases h : i = j
  · subst h; simp
  · rw [decide_eq_false h, decide_eq_false (fun z => h (V.int.inj z))]
theorem ht_lt {i j : Int} (h1 : HE X F C O e (In i) O1) (h2 : HE X F C O1 e2 (In j) O2) : HT X F C O (.Compare e [.Lt] [e2] pos) (decide (i < j)) O2 :=
  ht_cmp op_lt h1 h2 (nomark _) fun x y G H Q f p1 p2 k => ⟨i, j, isI p1, isI p2, k _ G H (Same.refl G) f (.bl _)⟩
theorem ht_le {i j : Int} (h1 : HE X F C O e (In i) O1) (h2 : HE X F C O1 e2 (In j) O2) : HT X F C O (.Compare e [.LtE] [e2] pos) (decide (i ≤ j)) O2 :=
  ht_cmp op_le h1 h2 (nomark _) fun x y G H Q f p1 p2 k => ⟨i, j, isI p1, isI p2, k _ G H (Same.refl G) f (.bl _)⟩
theorem ht_gt {i j : Int} (h1 : HE X F C O e (In i) O1) (h2 : HE X F C O1 e2 (In j) O2) : HT X F C O (.Compare e [.Gt] [e2] pos) (decide (j < i)) O2 :=
  ht_cmp op_gt h1 h2 (nomark _) fun x y G H Q f p1 p2 k => ⟨i, j, isI p1, isI p2, k _ G H (Same.refl G) f (.bl _)⟩
theorem ht_ge {i j : Int} (h1 : HE X F C O e (In i) O1) (h2 : HE X F C O1 e2 (In j) O2) : HT X F C O (.Compare e [.GtE] [e2] pos) (decide (j ≤ i)) O2 :=
  ht_cmp op_ge h1 h2 (nomark _) fun x y G H Q f p1 p2 k => ⟨i, j, isI p1, isI p2, k _ G H (Same.refl G) f (.bl _)⟩
theorem ht_eq {i j : Int} (h1 : HE X F C O e (In i) O1) (h2 : HE X F C O1 e2 (In j) O2) : HT X F C O (.Compare e [.Eq] [e2] pos) (decide (i = j)) O2 :=
  ht_cmp op_eq h1 h2 (nomark _) fun x y G H Q f p1 p2 k => by
    rw [isI p1, isI p2]; exact ⟨rfl, k _ G H (Same.refl G) f (by rw [dec_inj]; exact .bl _)⟩
theorem ht_ne {i j : Int} (h1 : HE X F C O e (In i) O1) (h2 : HE X F C O1 e2 (In j) O2) : HT X F C O (.Compare e [.NotEq] [e2] pos) (!decide (i = j)) O2 :=
  ht_cmp op_ne h1 h2 (nomark _) fun x y G H Q f p1 p2 k => by
    rw [isI p1, isI p2]; exact ⟨rfl, k _ G H (Same.refl G) f (by rw [dec_inj]; exact .bl _)⟩
theorem he_lt {i j : Int} (h1 : HE X F C O e (In i) O1) (h2 : HE X F C O1 e2 (In j) O2) : HE X F C O (.Compare e [.Lt] [e2] pos) (Bo (decide (i < j))) O2 :=
  he_cmp op_lt h1 h2 (nomark _) fun x y G H Q f p1 p2 k => ⟨i, j, isI p1, isI p2, k _ G H (Same.refl G) f (.bl _)⟩
theorem he_le {i j : Int} (h1 : HE X F C O e (In i) O1) (h2 : HE X F C O1 e2 (In j) O2) : HE X F C O (.Compare e [.LtE] [e2] pos) (Bo (decide (i ≤ j))) O2 :=
  he_cmp op_le h1 h2 (nomark _) fun x y G H Q f p1 p2 k => ⟨i, j, isI p1, isI p2, k _ G H (Same.refl G) f (.bl _)⟩
theorem he_gt {i j : Int} (h1 : HE X F C O e (In i) O1) (h2 : HE X F C O1 e2 (In j) O2) : HE X F C O (.Compare e [.Gt] [e2] pos) (Bo (decide (j < i))) O2 :=
  he_cmp op_gt h1 h2 (nomark _) fun x y G H Q f p1 p2 k => ⟨i, j, isI p1, isI p2, k _ G H (Same.refl G) f (.bl _)⟩
theorem he_ge {i j : Int} (h1 : HE X F C O e (In i) O1) (h2 : HE X F C O1 e2 (In j) O2) : HE X F C O (.Compare e [.GtE] [e2] pos) (Bo (decide (j ≤ i))) O2 :=
  he_cmp op_ge h1 h2 (nomark _) fun x y G H Q f p1 p2 k => ⟨i, j, isI p1, isI p2, k _ G H (Same.refl G) f (.bl _)⟩
theorem he_eq {i j : Int} (h1 : HE X F C O e (In i) O1) (h2 : HE X F C O1 e2 (In j) O2) : HE X F C O (.Compare e [.Eq] [e2] pos) (Bo (decide (i = j))) O2 :=
  he_cmp op_eq h1 h2 (nomark _) fun x y G H Q f p1 p2 k => by
    rw [isI p1, isI p2]; exact ⟨rfl, k _ G H (Same.refl G) f (by rw [dec_inj]; exact .bl _)⟩
theorem he_ne {i j : Int} (h1 : HE X F C O e (In i) O1) (h2 : HE X F C O1 e2 (In j) O2) : HE X F C O (.Compare e [.NotEq] [e2] pos) (Bo (!decide (i = j))) O2 :=
  he_cmp op_ne h1 h2 (nomark _) fun x y G H Q f p1 p2 k => by
    rw [isI p1, isI p2]; exact ⟨rfl, k _ G H (Same.refl G) f (by rw [dec_inj]; exact .bl _)⟩
/-! data at any depth compared -/
theorem he_eqD {d d' : PyData} (hu : X.A.units + 64 < cLine) (h1 : HE X F C O e (Dv d) O1) (h2 : HE X F C O1 e2 (Dv d') O2) (s1 : SeqAt.shaped d = true) (s2 : SeqAt.shaped d' = true) : HE X F C O (.Compare e [.Eq] [e2] pos) (Bo (PyData.eqv d d')) O2 :=
  he_cmp (op_eqD hu) h1 h2 (nomark _) fun x y G H Q f p1 p2 k => ⟨d, d', Is.dp d _ (Is.up f.gh d _ p1), Is.dp d' _ (Is.up f.gh d' _ p2), s1, s2, k _ G H (Same.refl G) f (.bl _)⟩
theorem ht_eqD {d d' : PyData} (hu : X.A.units + 64 < cLine) (h1 : HE X F C O e (Dv d) O1) (h2 : HE X F C O1 e2 (Dv d') O2) (s1 : SeqAt.shaped d = true) (s2 : SeqAt.shaped d' = true) : HT X F C O (.Compare e [.Eq] [e2] pos) (PyData.eqv d d') O2 :=
  ht_cmp (op_eqD hu) h1 h2 (nomark _) fun x y G H Q f p1 p2 k => ⟨d, d', Is.dp d _ (Is.up f.gh d _ p1), Is.dp d' _ (Is.up f.gh d' _ p2), s1, s2, k _ G H (Same.refl G) f (.bl _)⟩
theorem he_neD {d d' : PyData} (hu : X.A.units + 64 < cLine) (h1 : HE X F C O e (Dv d) O1) (h2 : HE X F C O1 e2 (Dv d') O2) (s1 : SeqAt.shaped d = true) (s2 : SeqAt.shaped d' = true) : HE X F C O (.Compare e [.NotEq] [e2] pos) (Bo (!PyData.eqv d d')) O2 :=
  he_cmp (op_neD hu) h1 h2 (nomark _) fun x y G H Q f p1 p2 k => ⟨d, d', Is.dp d _ (Is.up f.gh d _ p1), Is.dp d' _ (Is.up f.gh d' _ p2), s1, s2, k _ G H (Same.refl G) f (.bl _)⟩
theorem ht_neD {d d' : PyData} (hu : X.A.units + 64 < cLine) (h1 : HE X F C O e (Dv d) O1) (h2 : HE X F C O1 e2 (Dv d') O2) (s1 : SeqAt.shaped d = true) (s2 : SeqAt.shaped d' = true) : HT X F C O (.Compare e [.NotEq] [e2] pos) (!PyData.eqv d d') O2 :=
  ht_cmp (op_neD hu) h1 h2 (nomark _) fun x y G H Q f p1 p2 k => ⟨d, d', Is.dp d _ (Is.up f.gh d _ p1), Is.dp d' _ (Is.up f.gh d' _ p2), s1, s2, k _ G H (Same.refl G) f (.bl _)⟩
/-! tests -/
theorem ht_and {es : List Expr} (h1 : HT X F C O e b O1) (h2 : b = true → HW X F C O1 (.BoolOp .And (e2 :: es) pos) c O2) (h0 : b = false → O1 = O2) : HW X F C O (.BoolOp .And (e :: e2 :: es) pos) (b && c) O2 := fun σ G H Q E k =>
  PW.go (pw_and pt_run pw_run) (h1 σ G H _ E fun G1 H1 s1 E1 => by
    cases b with
    | true => exact h2 rfl σ G1 H1 Q E1 fun G2 H2 s2 E2 => k G2 H2 (s1.trans s2) E2
    | false => exact k G1 H1 s1 ((h0 rfl) ▸ E1))
theorem ht_or {es : List Expr} (h1 : HT X F C O e b O1) (h2 : b = false → HW X F C O1 (.BoolOp .Or (e2 :: es) pos) c O2) (h0 : b = true → O1 = O2) : HW X F C O (.BoolOp .Or (e :: e2 :: es) pos) (b || c) O2 := fun σ G H Q E k =>
  PW.go (pw_or pt_run pw_run) (h1 σ G H _ E fun G1 H1 s1 E1 => by
    cases b with
    | false => exact h2 rfl σ G1 H1 Q E1 fun G2 H2 s2 E2 => k G2 H2 (s1.trans s2) E2
    | true => exact k G1 H1 s1 ((h0 rfl) ▸ E1))
theorem hw_and1 (h1 : HT X F C O e b O1) : HW X F C O (.BoolOp .And [e] pos) b O1 := fun σ G H Q E k => PW.go (pw_and1 pt_run) (h1 σ G H Q E k)
theorem hw_or1 (h1 : HT X F C O e b O1) : HW X F C O (.BoolOp .Or [e] pos) b O1 := fun σ G H Q E k => PW.go (pw_or1 pt_run) (h1 σ G H Q E k)
theorem ht_w (h : HW X F C O e b O1) : HT X F C O e b O1 := fun σ G H Q E k => PT.go pw_run.pt (h σ G H Q E k)
theorem ht_not (h : HT X F C O e b O1) : HT X F C O (.UnaryOp .Not e pos) (!b) O1 := fun σ G H Q E k => PT.go (pt_not pt_run) (h σ G H _ E k)
/-- an expression that gives a bool, as a test -/
theorem ht_val (h : HE X F C O e (Bo b) O1) (he : ∀ whole, isTrue e X.env whole = (do let v ← whole; standAt e.pos; holding [v] (truthy v)) := by intro _; rfl) : HT X F C O e b O1 := fun σ G H Q E k =>
  PT.go (pt_val pe_run he) (h σ G H _ E fun v G1 H1 s1 E1 p => ⟨b, isB p, k G1 H1 s1 E1⟩)
theorem he_and {es : List Expr} (h1 : HE X F C O e (Bo b) O1) (h2 : b = true → HE X F C O1 (.BoolOp .And (e2 :: es) pos) (Bo c) O2) (h0 : b = false → O1 = O2) : HE X F C O (.BoolOp .And (e :: e2 :: es) pos) (Bo (b && c)) O2 := fun σ G H Q E k =>
  PE.go (pe_and pe_run pe_run) (h1 σ G H _ E fun v G1 H1 s1 E1 p => ⟨b, isB p, by
    cases b with
    | true => exact h2 rfl σ G1 H1 Q E1 fun v G2 H2 s2 E2 p => k v G2 H2 (s1.trans s2) E2 p
    | false => exact k _ G1 H1 s1 ((h0 rfl) ▸ E1) (.bl _)⟩)
theorem he_or {es : List Expr} (h1 : HE X F C O e (Bo b) O1) (h2 : b = false → HE X F C O1 (.BoolOp .Or (e2 :: es) pos) (Bo c) O2) (h0 : b = true → O1 = O2) : HE X F C O (.BoolOp .Or (e :: e2 :: es) pos) (Bo (b || c)) O2 := fun σ G H Q E k =>
  PE.go (pe_or pe_run pe_run) (h1 σ G H _ E fun v G1 H1 s1 E1 p => ⟨b, isB p, by
    cases b with
    | false => exact h2 rfl σ G1 H1 Q E1 fun v G2 H2 s2 E2 p => k v G2 H2 (s1.trans s2) E2 p
    | true => exact k _ G1 H1 s1 ((h0 rfl) ▸ E1) (.bl _)⟩)
theorem he_one {op : BoolOp} (h : HE X F C O e R O1) : HE X F C O (.BoolOp op [e] pos) R O1 := fun σ G H Q E k => PE.go (pe_one pe_run) (h σ G H Q E k)
theorem he_not (h : HE X F C O e (Bo b) O1) : HE X F C O (.UnaryOp .Not e pos) (Bo (!b)) O1 := fun σ G H Q E k =>
  PE.go (pe_not pe_run) (h σ G H _ E fun v G1 H1 s1 E1 p => ⟨b, isB p, k _ G1 H1 s1 E1 (.bl _)⟩)
theorem he_if (hc : HT X F C O e b O1) (h1 : b = true → HE X F C O1 e2 R O2) (h0 : b = false → HE X F C O1 e3 R O2) : HE X F C O (.IfExp e e2 e3 pos) R O2 := fun σ G H Q E k =>
  PE.go (pe_ifExp pt_run pe_run pe_run) (hc σ G H _ E fun G1 H1 s1 E1 => by
    cases b with
    | true => exact h1 rfl σ G1 H1 Q E1 fun v G2 H2 s2 E2 p => k v G2 H2 (s1.trans s2) E2 p
    | false => exact h0 rfl σ G1 H1 Q E1 fun v G2 H2 s2 E2 p => k v G2 H2 (s1.trans s2) E2 p)
/-! argument lists, displays -/
theorem ha_nil : HA X F C O [] [] O := fun σ G H Q E k => PA.go pa_nil (k [] G H (Same.refl G) E .nil)
theorem ha_cons (h : HE X F C O e R O1) (t : HA X F C O1 es Rs O2) (hs : starEach (e :: es) X.env = (false, eval e X.env) :: starEach es X.env := by rfl) : HA X F C O (e :: es) (R :: Rs) O2 := fun σ G H Q E k =>
  PA.go (pa_cons pe_run pa_run hs) (h σ G H _ E fun v G1 H1 s1 E1 p1 => t σ G1 H1 _ E1 fun vs G2 H2 s2 E2 p2 => k (v :: vs) G2 H2 (s1.trans s2) E2 (.cons (R.m s2 p1) p2))
theorem FaR.dv {G : Hp} : ∀ {ds : List PyData} {vs : List V}, FaR G (ds.map Dv) vs → IsL G vs ds
  | [], _, h => by cases h; exact .nil
  | d :: ds, _, h => by
    cases h with
    | cons h t => exact .cons h (FaR.dv t)
theorem FaR.of {G : Hp} : ∀ {ds : List PyData} {vs : List V}, IsL G vs ds → FaR G (ds.map Dv) vs
  | [], _, h => by cases h; exact .nil
  | d :: ds, _, h => by
    cases h with
    | cons h t => exact .cons h (FaR.of t)
theorem he_tup {ds : List PyData} {k1 : Nat} (h : HA X F C O es (ds.map Dv) O1) (hz : ds.length ≤ sizeLine := by decide) : HE X F C O (.Tuple es k1 pos) (Tu ds) O1 := fun σ G H Q E k =>
  PE.go (pe_tup pa_run) (h σ G H _ E fun vs G1 H1 s1 E1 p1 => ⟨by rw [(p1.dv).length]; exact hz, fun p hp => by
    have f := E1.fr.new (o := .tup vs) hp
    have s2 : Same G1 (upd G1 p (.tup vs)) := fun b u q => by
      have hG : G1 p = none := by
        cases z : G1 p with
        | none => rfl
        | some u => rw [E1.fr.gh p u z] at hp; cases hp
      rw [upd_ne (ne_of_none q hG)]; exact q
    exact k _ _ _ (s1.trans s2) (E1.up f s2) (.tup upd_same (IsL.up s2 ds _ p1.dv))⟩)
theorem he_lst {ds : List PyData} (h : HA X F C O es (ds.map Dv) O1) (hz : ds.length ≤ sizeLine := by decide) : HE X F C O (.List es pos) (Ls ds) O1 := fun σ G H Q E k =>
  PE.go (pe_lst pa_run) (h σ G H _ E fun vs G1 H1 s1 E1 p1 => ⟨by rw [(p1.dv).length]; exact hz, fun p hp => by
    have f := E1.fr.new (o := .lst vs) hp
    have s2 : Same G1 (upd G1 p (.lst vs)) := fun b u q => by
      have hG : G1 p = none := by
        cases z : G1 p with
        | none => rfl
        | some u => rw [E1.fr.gh p u z] at hp; cases hp
      rw [upd_ne (ne_of_none q hG)]; exact q
    exact k _ _ _ (s1.trans s2) (E1.up f s2) (.lst upd_same (IsL.up s2 ds _ p1.dv))⟩)
theorem hl_lst {ds : List PyData} (h : HA X F C O es (ds.map Dv) O1) (hz : ds.length ≤ sizeLine := by decide) : HL X F C O (.List es pos) ds O1 := fun σ G H Q E k =>
  PE.go (pe_lst pa_run) (h σ G H _ E fun vs G1 H1 s1 E1 p1 => ⟨by rw [(p1.dv).length]; exact hz, fun p hp =>
    k p _ _ s1 (E1.fr.there p hp) (E1.up (E1.fr.mine hp ⟨vs, rfl, p1.dv⟩) (Same.refl _))⟩)
/-! a part of a tuple, of a list -/
theorem he_ixT {ds : List PyData} {i : Int} {n : Nat} {d : PyData} (h1 : HE X F C O e (Tu ds) O1) (h2 : HE X F C O1 e2 (In i) O2) (hi : atI ds i = some d) (hs : PlainIx e2 := by exact fun _ _ => rfl) : HE X F C O (.Subscript e e2 pos) (Dv d) O2 := fun σ G H Q E k =>
  PE.go (pe_ix ix_tup pe_run pe_run hs) (h1 σ G H _ E fun x G1 H1 s1 E1 p1 => h2 σ G1 H1 _ E1 fun y G2 H2 s2 E2 p2 => by
    obtain ⟨a, xs, e, ha, r⟩ := isT ((Tu ds).m s2 p1)
    obtain ⟨j, e1, e2⟩ := Option.bind_eq_some_iff.mp (show (ixN ds.length i).bind _ = some d from hi)
    obtain ⟨v, ev, p⟩ := r.at e2
    refine ⟨a, xs, i, v, e, isI p2, SqT.of (E2.fr.gh _ _ ha), ?_, k v G2 H2 (s1.trans s2) E2 p⟩
    show (ixN xs.length i).bind _ = some v
    rw [r.length, e1]; exact ev)
theorem he_ixL {ds : List PyData} {i : Int} {d : PyData} (h1 : HE X F C O e (Ls ds) O1) (h2 : HE X F C O1 e2 (In i) O2) (hi : atI ds i = some d) (hs : PlainIx e2 := by exact fun _ _ => rfl) : HE X F C O (.Subscript e e2 pos) (Dv d) O2 := fun σ G H Q E k =>
  PE.go (pe_ix ix_list pe_run pe_run hs) (h1 σ G H _ E fun x G1 H1 s1 E1 p1 => h2 σ G1 H1 _ E1 fun y G2 H2 s2 E2 p2 => by
    obtain ⟨a, xs, e, ha, r⟩ := isL ((Ls ds).m s2 p1)
    obtain ⟨j, e1, e2⟩ := Option.bind_eq_some_iff.mp (show (ixN ds.length i).bind _ = some d from hi)
    obtain ⟨v, ev, p⟩ := r.at e2
    refine ⟨a, xs, i, v, e, isI p2, SqL.of (E2.fr.gh _ _ ha), ?_, k v G2 H2 (s1.trans s2) E2 p⟩
    show (ixN xs.length i).bind _ = some v
    rw [r.length, e1]; exact ev)
/-- .. of our own list at a -/
theorem he_ixO {ds : List PyData} {i : Int} {a : Addr} {d : PyData} (h1 : HE X F C O e (Sv (.ref a)) O1) (h2 : HE X F C O1 e2 (In i) O2) (ho : (a, LsO ds) ∈ O2) (hi : atI ds i = some d) (hs : PlainIx e2 := by exact fun _ _ => rfl) : HE X F C O (.Subscript e e2 pos) (Dv d) O2 := fun σ G H Q E k =>
  PE.go (pe_ix ix_list pe_run pe_run hs) (h1 σ G H _ E fun x G1 H1 s1 E1 p1 => h2 σ G1 H1 _ E1 fun y G2 H2 s2 E2 p2 => by
    obtain ⟨⟨o, ha, xs, eo, r⟩, _⟩ := E2.fr.own _ ho
    subst eo
    obtain ⟨j, e1, e2⟩ := Option.bind_eq_some_iff.mp (show (ixN ds.length i).bind _ = some d from hi)
    obtain ⟨v, ev, p⟩ := r.at e2
    refine ⟨a, xs, i, v, p1, isI p2, SqL.of ha, ?_, k v G2 H2 (s1.trans s2) E2 p⟩
    show (ixN xs.length i).bind _ = some v
    rw [r.length, e1]; exact ev)

/-! ### targets -/
theorem hg_name (i : Nat) {x : Str} (hN : X.N.Nodup) (hi : X.N[i]? = some x := by rfl) (hx : Loc X.env.scope x := by first | exact Or.inl rfl | exact Or.inr rfl) (hf : X.fn x = true ∨ X.env.scope.names.lookup x = some .local := by first | exact .inl rfl | exact .inr rfl) :
    HG X F C (.Name x pos) R (C.set i (some R)) := fun O σ G H v Q E p k => PG.go (pg_name hN hi hx hf) (k _ (E.set p))
theorem hgs_nil : HGs X F C [] [] C := fun O σ G H vs Q E p k => by
  cases p
  exact PGs.go pgs_nil ⟨rfl, k σ E⟩
theorem hgs_cons (h1 : HG X F C e R C1) (h2 : HGs X F C1 es Rs C') (hs : (assignEach (e :: es) X.env).map (·.2) = assign e X.env :: (assignEach es X.env).map (·.2) := by rfl) : HGs X F C (e :: es) (R :: Rs) C' := fun O σ G H vs Q E p k => by
  cases p with
  | cons p t => exact PGs.go (pgs_cons pg_run pgs_run hs) ⟨_, _, rfl, h1 O σ G H _ _ E p fun σ1 E1 => h2 O σ1 G H _ _ E1 t k⟩
theorem hg_tup {ds : List PyData} {k1 : Nat} (hc : X.calm = true) (h : HGs X F C es (ds.map Dv) C') (hn : (assignEach es X.env).length = ds.length := by rfl) (hst : (assignEach es X.env).findIdx? (·.1) = none := by rfl) : HG X F C (.Tuple es k1 pos) (Tu ds) C' := fun O σ G H v Q E p k => by
  obtain ⟨a, xs, e, ha, r⟩ := isT p
  subst e
  exact PG.go (pg_tup hc pgs_run hn hst) ⟨a, xs, rfl, SqT.of (E.fr.gh _ _ ha), r.length, h O σ G H _ _ E (FaR.of r) k⟩

/-! ### statements -/
theorem hb_nil : HB X W F C O [] (.nx C O) := fun σ G H D E k => PSs.go pss_nil (k σ G H (Same.refl G) E)
theorem hb_cons (h1 : HS X W F C O st (.nx C1 O1)) (h2 : HB X W F C1 O1 rest o) : HB X W F C O (st :: rest) o := fun σ G H D E k =>
  PSs.go (pss_cons ps_run pb_run) (h1 σ G H _ E fun σ1 G1 H1 s1 E1 => h2 σ1 G1 H1 D E1 (k.up s1))
/-- the block ends here -/
def Ends1 : Out → Prop
  | .nx _ _ => False
  | _ => True
theorem OutOk.cut {D : Ends} {G : Hp} {n : L2.St → Hp → Prop} (h : Ends1 o) (k : OutOk F W D G o) : OutOk F W { D with nx := n } G o := by
  cases o with
  | nx => exact h.elim
  | rt => exact k
  | rl => exact k
  | bk => exact k
  | ct => exact k
  | xc => exact k
theorem hb_stop (h1 : HS X W F C O st o) (hs : Ends1 o := by trivial) : HB X W F C O (st :: rest) o := fun σ G H D E k =>
  PSs.go (pss_cons ps_run pb_run) (h1 σ G H _ E (k.cut hs))
theorem hs_ret (h : HE X F C O e R O1) : HS X W F C O (.Return (some e) pos) (.rt R O1) := fun σ G H D E k => PS.go (ps_ret pe_run) (h σ G H _ E fun v G1 H1 s1 E1 p => k v G1 H1 s1 E1.fr p)
theorem hs_retL {ds : List PyData} (h : HL X F C O e ds O1) : HS X W F C O (.Return (some e) pos) (.rl ds O1) := fun σ G H D E k => PS.go (ps_ret pe_run) (h σ G H _ E fun a G1 H1 s1 hn E1 => k a G1 H1 s1 E1.fr hn)
theorem hs_set (i : Nat) {x : Str} {p : Pos} (hN : X.N.Nodup) (h : HE X F C O e R O1) (hi : X.N[i]? = some x := by rfl) (hx : Loc X.env.scope x := by first | exact Or.inl rfl | exact Or.inr rfl)
    (hs : swapsWith e (some (.Name x p)) pos.line X.env = pure false := by rfl) (hf : X.fn x = true ∨ X.env.scope.names.lookup x = some .local := by first | exact .inl rfl | exact .inr rfl) : HS X W F C O (.Assign [.Name x p] e pos) (.nx (C.set i (some R)) O1) := fun σ G H D E k =>
  PS.go (ps_set hN hi hx pe_run hs hf) (h σ G H _ E fun v G1 H1 s1 E1 p => k _ G1 H1 s1 (E1.set p))
/-- name = a new list, our own -/
theorem hb_setL (i : Nat) {x : Str} {p : Pos} {ds : List PyData} (hN : X.N.Nodup) (h : HL X F C O e ds O1) (h2 : ∀ a, F.H0 a = none → HB X W F (C.set i (some (Sv (.ref a)))) ((a, LsO ds) :: O1) rest o) (hi : X.N[i]? = some x := by rfl) (hx : Loc X.env.scope x := by first | exact Or.inl rfl | exact Or.inr rfl)
    (hs : swapsWith e (some (.Name x p)) pos.line X.env = pure false := by rfl) (hf : X.fn x = true ∨ X.env.scope.names.lookup x = some .local := by first | exact .inl rfl | exact .inr rfl) : HB X W F C O (.Assign [.Name x p] e pos :: rest) o := fun σ G H D E k =>
  PSs.go (pss_cons (ps_set hN hi hx pe_run hs hf) pb_run) (h σ G H _ E fun a G1 H1 s1 hn E1 => h2 a hn _ G1 H1 D (E1.set (R := Sv (.ref a)) rfl) (k.up s1))
theorem hs_asg {tg : Expr} (h : HE X F C O e R O1) (hg : HG X F C tg R C') (hs : swapsWithSole [tg] e pos.line X.env = pure false := by rfl) (hw : swappedStores [tg] e X.env = pure none := by rfl)
    (h1 : (assignEach [tg] X.env).map (·.2) = [assign tg X.env] := by rfl) : HS X W F C O (.Assign [tg] e pos) (.nx C' O1) := fun σ G H D E k =>
  PS.go (ps_asg pe_run pg_run hs hw h1) (h σ G H _ E fun v G1 H1 s1 E1 p => hg _ σ G1 H1 v _ E1 p fun σ' E2 => k σ' G1 H1 s1 E2)
theorem hs_expr (h : HE X F C O e R O1) (hs : swapsWith e none pos.line X.env = pure false := by rfl) : HS X W F C O (.Expr e pos) (.nx C O1) := fun σ G H D E k =>
  PS.go (ps_expr pe_run hs) (h σ G H _ E fun v G1 H1 s1 E1 p => k σ G1 H1 s1 E1)
/-- a, b = x, y (plain locals) -/
theorem hs_par (i j : Nat) {x y : Str} {px py pt : Pos} {kt k2 pt2} {R1 R2 : VR} (hc : X.calm = true) (hN : X.N.Nodup) (ha : HA X F C O [e, e2] [R1, R2] O1) (hi : X.N[i]? = some x := by rfl) (hj : X.N[j]? = some y := by rfl) (hij : i ≠ j := by decide)
    (hx : X.env.scope.names.lookup x = some .local := by rfl) (hy : X.env.scope.names.lookup y = some .local := by rfl)
    (hw : swappedStores [.Tuple [.Name x px, .Name y py] kt pt] (.Tuple [e, e2] k2 pt2) X.env = pure (some [x, y]) := by rfl)
    (hs : swapsWithSole [.Tuple [.Name x px, .Name y py] kt pt] (.Tuple [e, e2] k2 pt2) pos.line X.env = pure false := by rfl) :
    HS X W F C O (.Assign [.Tuple [.Name x px, .Name y py] kt pt] (.Tuple [e, e2] k2 pt2) pos) (.nx ((C.set i (some R1)).set j (some R2)) O1) := fun σ G H D E k =>
  PS.go (ps_par hc hN hi hj hij hx hy pa_run hw hs) (ha σ G H _ E fun vs G1 H1 s1 E1 p => by
    cases p with
    | cons p1 t =>
      cases t with
      | cons p2 t =>
        cases t
        exact ⟨_, _, rfl, k _ G1 H1 s1 ((E1.set p1).set p2)⟩)
theorem hs_if (hc : HT X F C O e b O1) (h1 : b = true → HB X W F C O1 body o) (h0 : b = false → HB X W F C O1 els o) : HS X W F C O (.If e body els pos) o := fun σ G H D E k =>
  PS.go (ps_if pt_run pb_run pb_run) (hc σ G H _ E fun G1 H1 s1 E1 => by
    cases b with
    | true => exact h1 rfl σ G1 H1 D E1 (k.up s1)
    | false => exact h0 rfl σ G1 H1 D E1 (k.up s1))
/-- the test's answer is known, the body is not entered -/
theorem hb_ifF (hc : HT X F C O e b O1) (hb : b = false) (h0 : HB X W F C O1 rest o) : HB X W F C O (.If e body [] pos :: rest) o :=
  hb_cons (hs_if hc (fun z => by rw [hb] at z; cases z) fun _ => hb_nil) h0
/-- .. or it ends the block -/
theorem hb_ifT (hc : HT X F C O e b O1) (hb : b = true) (h1 : HB X W F C O1 body o) (hs : Ends1 o := by trivial) : HB X W F C O (.If e body els pos :: rest) o :=
  hb_stop (hs_if hc (fun _ => h1) fun z => by rw [hb] at z; cases z) hs
/-- both ways -/
theorem hb_if (hc : HT X F C O e b O1) (h1 : b = true → HB X W F C O1 body o) (h0 : b = false → HB X W F C O1 rest o) (hs : Ends1 o := by trivial) : HB X W F C O (.If e body [] pos :: rest) o := by
  cases hb : b with
  | true => exact hb_ifT hc hb (h1 hb) hs
  | false => exact hb_ifF hc hb (h0 hb)
/-- while: Ci x before each turn, x of any kind -/
theorem hb_while {ι : Type} (Ci : ι → Ctx) (Oi : ι → Own) (μ : ι → Nat) (x0 : ι) (po : PassesOwn (model X.prog X.w) X.A X.env X.xe) (h0 : Sub C (Ci x0)) (ho : O = Oi x0)
    (ht : ∀ x, (HT X F (Ci x) (Oi x) e false (Oi x) ∧ HB X W F (Ci x) (Oi x) rest o) ∨ (HT X F (Ci x) (Oi x) e true (Oi x) ∧ ∃ y, μ y < μ x ∧ HB X W F (Ci x) (Oi x) body (.nx (Ci y) (Oi y)))) :
    HB X W F C O (.While e body [] pos :: rest) o := fun σ G H D E k => by
  refine PSs.go (pss_cons (ps_while po pt_run pb_run) pb_run) ⟨fun m σ H => ∃ x G1, m = μ x ∧ Same G G1 ∧ Sta F (Ci x) (Oi x) σ G1 H, ⟨_, x0, G, rfl, Same.refl G, ho ▸ E.sub h0⟩, ?_⟩
  rintro m σ1 H1 ⟨x, G1, rfl, s1, E1⟩
  rcases ht x with ⟨h1, h2⟩ | ⟨h1, y, hy, h2⟩
  · exact h1 σ1 G1 H1 _ E1 fun G2 H2 s2 E2 => h2 σ1 G2 H2 D E2 (k.up (s1.trans s2))
  · exact h1 σ1 G1 H1 _ E1 fun G2 H2 s2 E2 => ⟨fun σ' H' => ∃ G', Same G G' ∧ Sta F (Ci y) (Oi y) σ' G' H', fun σ' H' ⟨G', s', E'⟩ => ⟨_, hy, y, G', rfl, s', E'⟩, h2 σ1 G2 H2 _ E2 fun σ3 G3 H3 s3 E3 => ⟨G3, (s1.trans s2).trans s3, E3⟩⟩

/-! ### loops -/
def RunI (X : Cx) (tg iter : Expr) (σ : L2.St) (H : Hp) (R : It → Hp → Prop) : Prop :=
  ∀ (pins : List (Addr × Obj)) (s : Shared), Inv X pins σ H s → wpAny (model X.prog X.w) X.A (eval iter X.env) (fun v s1 => wpAny (model X.prog X.w) X.A (pyIter v) (PIE X pins σ tg R) X.xe s1) X.xe s
theorem pi_run {tg iter : Expr} : PI X tg iter (RunI X tg iter) := ⟨fun pins s _ _ _ I h => h pins s I⟩
theorem PI.go {tg iter : Expr} {wi : TI} {σ : L2.St} {H : Hp} {Q : It → Hp → Prop} (h : PI X tg iter wi) (q : wi σ H Q) : RunI X tg iter σ H Q := fun pins s I => h.run pins s σ H Q I q
/-- J gives n values, Y i of the i-th, while what is known in G0 stands -/
structure Walked (F : Fm) (J : It) (G0 : Hp) (n : Nat) (Y : Nat → VR) : Prop where
  go : ∀ i O G H, i < n → FrOk F O G H → Same G0 G → J.go i H
  yl : ∀ i x O G H H', i < n → FrOk F O G H → Same G0 G → J.yld i H x H' → ∃ G', Same G G' ∧ FrOk F O G' H' ∧ (Y i).p x G'
  st : ∀ O G H, FrOk F O G H → Same G0 G → J.stop n H
def HI (X : Cx) (F : Fm) (C : Ctx) (O : Own) (tg iter : Expr) (n : Nat) (Y : Nat → VR) (O' : Own) : Prop :=
  ∀ σ G H Q, Sta F C O σ G H → (∀ J G' H', Same G G' → Sta F C O' σ G' H' → Walked F J G' n Y → Q J H') → RunI X tg iter σ H Q
/-- for: m turns that go on; then the end, or a turn that ends the block -/
theorem hb_for {tg iter : Expr} {n : Nat} {Y : Nat → VR} (hc : X.calm = true) (po : PassesOwn (model X.prog X.w) X.A X.env X.xe) (hi : HI X F C O tg iter n Y O1) (Ci Ct : Nat → Ctx) (Oi : Nat → Own) (m : Nat) (hm : m ≤ n)
    (h0 : Sub C (Ci 0)) (ho : O1 = Oi 0) (hg : ∀ i, i < n → HG X F (Ci i) tg (Y i) (Ct i))
    (hb : ∀ i, i < m → HB X W F (Ct i) (Oi i) body (.nx (Ci (i + 1)) (Oi (i + 1)))) (he : (m = n ∧ HB X W F (Ci n) (Oi n) rest o) ∨ (m < n ∧ HB X W F (Ct m) (Oi m) body o ∧ Ends1 o ∧ (∀ C O, o ≠ .bk C O) ∧ ∀ C O, o ≠ .ct C O)) (hs : ∀ x, foldedSetIterable iter X.env x = pure x := by intro _; rfl) : HB X W F C O (.For tg iter body [] pos :: rest) o := fun σ G H D E k => by
  refine PSs.go (pss_cons (ps_for po hc pi_run pg_run pb_run hs) pb_run) (hi σ G H _ E fun J G1 H1 s1 E1 w => ?_)
  refine ⟨fun i j σ H => j = n - i ∧ i ≤ m ∧ ∃ G', Same G1 G' ∧ Sta F (Ci i) (Oi i) σ G' H, ⟨n, by simp, Nat.zero_le _, G1, Same.refl G1, ho ▸ E1.sub h0⟩, ?_⟩
  rintro i j σ2 H2 ⟨rfl, hi2, G2, s2, E2⟩
  by_cases hlt : i < m
  · refine .inr ⟨w.go i _ G2 H2 (by omega) E2.fr s2, fun σ' H' => ∃ G', Same G1 G' ∧ Sta F (Ci (i + 1)) (Oi (i + 1)) σ' G' H', fun σ' H' ⟨G', s', E'⟩ => ⟨n - (i + 1), by omega, rfl, hlt, G', s', E'⟩, fun x H3 y => ?_⟩
    obtain ⟨G3, s3, f3, p3⟩ := w.yl i x _ G2 H2 H3 (by omega) E2.fr s2 y
    exact hg i (by omega) _ σ2 G3 H3 x _ (E2.up f3 s3) p3 fun σ4 E4 => hb i hlt σ4 G3 H3 _ E4 fun σ5 G5 H5 s5 E5 => ⟨G5, (s2.trans s3).trans s5, E5⟩
  · have e : i = m := by omega
    subst e
    rcases he with ⟨rfl, h2⟩ | ⟨h1, h2, h3, h4, h5⟩
    · exact .inl ⟨w.st _ G2 H2 E2.fr s2, h2 σ2 G2 H2 D E2 (k.up (s1.trans s2))⟩
    · refine .inr ⟨w.go i _ G2 H2 h1 E2.fr s2, fun _ _ => False, fun _ _ z => z.elim, fun x H3 y => ?_⟩
      obtain ⟨G3, s3, f3, p3⟩ := w.yl i x _ G2 H2 H3 h1 E2.fr s2 y
      refine hg i h1 _ σ2 G3 H3 x _ (E2.up f3 s3) p3 fun σ4 E4 => h2 σ4 G3 H3 _ E4 ?_
      have k2 := k.up ((s1.trans s2).trans s3)
      cases o with
      | nx => exact h3.elim
      | rt => exact k2
      | rl => exact k2
      | bk C O => exact (h4 C O rfl).elim
      | ct C O => exact (h5 C O rfl).elim
      | xc => exact k2
theorem Walked.list {K : PySem.W.Frag} {a : Addr} {xs : List V} {ds : List PyData} {G0 : Hp} (ha : G0 a = some (.lst xs)) (r : IsL G0 xs ds) : Walked F (Itl K a) G0 ds.length (fun i => Dv (ds.getD i .none)) where
  go := fun i O G H hi f s => by
    obtain ⟨v, ev, p⟩ := r.at (i := i) (List.getElem?_eq_getElem hi)
    exact ⟨xs, v, SqL.of (f.gh _ _ (s _ _ ha)), ev⟩
  yl := fun i x O G H H' hi f s y => by
    obtain ⟨e, y⟩ := y
    subst e
    refine ⟨G, Same.refl G, f, ?_⟩
    obtain ⟨d, ed, p⟩ := r.get (y xs (SqL.of (f.gh _ _ (s _ _ ha))))
    show Is G x (ds.getD i .none)
    rw [List.getD_eq_getElem?_getD, ed]
    exact Is.up s _ _ p
  st := fun O G H f s => ⟨xs, SqL.of (f.gh _ _ (s _ _ ha)), by rw [r.length]; exact Nat.le_refl _⟩
theorem Walked.tup {K : PySem.W.Frag} {a : Addr} {xs : List V} {ds : List PyData} {G0 : Hp} (ha : G0 a = some (.tup xs)) (r : IsL G0 xs ds) : Walked F (Itt K a) G0 ds.length (fun i => Dv (ds.getD i .none)) where
  go := fun i O G H hi f s => by
    obtain ⟨v, ev, p⟩ := r.at (i := i) (List.getElem?_eq_getElem hi)
    exact ⟨xs, v, SqT.of (f.gh _ _ (s _ _ ha)), ev⟩
  yl := fun i x O G H H' hi f s y => by
    obtain ⟨e, y⟩ := y
    subst e
    refine ⟨G, Same.refl G, f, ?_⟩
    obtain ⟨d, ed, p⟩ := r.get (y xs (SqT.of (f.gh _ _ (s _ _ ha))))
    show Is G x (ds.getD i .none)
    rw [List.getD_eq_getElem?_getD, ed]
    exact Is.up s _ _ p
  st := fun O G H f s => ⟨xs, SqT.of (f.gh _ _ (s _ _ ha)), by rw [r.length]; exact Nat.le_refl _⟩
theorem hi_list {tg : Expr} {ds : List PyData} (h : HE X F C O e (Ls ds) O1) : HI X F C O tg e ds.length (fun i => Dv (ds.getD i .none)) O1 := fun σ G H Q E k =>
  PI.go (pi_list pe_run) (h σ G H _ E fun v G1 H1 s1 E1 p => by
    obtain ⟨a, xs, ev, ha, r⟩ := isL p
    exact ⟨a, ev, ⟨xs, SqL.of (E1.fr.gh _ _ ha)⟩, k _ G1 H1 s1 E1 (.list ha r)⟩)
theorem hi_tup {tg : Expr} {ds : List PyData} (h : HE X F C O e (Tu ds) O1) : HI X F C O tg e ds.length (fun i => Dv (ds.getD i .none)) O1 := fun σ G H Q E k =>
  PI.go (pi_tup pe_run) (h σ G H _ E fun v G1 H1 s1 E1 p => by
    obtain ⟨a, xs, ev, ha, r⟩ := isT p
    exact ⟨a, ev, ⟨xs, SqT.of (E1.fr.gh _ _ ha)⟩, k _ G1 H1 s1 E1 (.tup ha r)⟩)
theorem Walked.rng {lo : Int} {n : Nat} {G0 : Hp} : Walked F (Itr lo n) G0 n (fun i => In (lo + i)) where
  go := fun i O G H hi _ _ => hi
  yl := fun i x O G H H' hi f s y => by
    obtain ⟨e, e2⟩ := y
    subst e e2
    exact ⟨G, Same.refl G, f, .int _⟩
  st := fun O G H f s => Nat.le_refl _
theorem hi_range1 {tg : Expr} {p : Pos} {j : Int} (hm : X.mg "range" = none) (h : HA X F C O [e] [In j] O1) (hb : -(2 ^ 62) ≤ j ∧ j < 2 ^ 62) (hg : Gl X "range" := by rfl) (hs : starEach [e] X.env = [(false, eval e X.env)] := by rfl) :
    HI X F C O tg (.Call (.Name "range" p) [e] [] pos) j.toNat (fun i => In (0 + i)) O1 := fun σ G H Q E k =>
  PI.go (pi_range1 hg hm pa_run hs) (h σ G H _ E fun vs G1 H1 s1 E1 p => by
    cases p with
    | cons p t =>
      cases t
      exact ⟨j, by rw [isI p], hb.1, hb.2, k _ G1 H1 s1 E1 .rng⟩)
theorem hi_range2 {tg : Expr} {p : Pos} {i j : Int} (hm : X.mg "range" = none) (h : HA X F C O [e, e2] [In i, In j] O2) (hb : -(2 ^ 62) ≤ i ∧ i < 2 ^ 62 ∧ -(2 ^ 62) ≤ j ∧ j < 2 ^ 62) (hg : Gl X "range" := by rfl)
    (hs : starEach [e, e2] X.env = [(false, eval e X.env), (false, eval e2 X.env)] := by rfl) (hs2 : starEach [e2] X.env = [(false, eval e2 X.env)] := by rfl) :
    HI X F C O tg (.Call (.Name "range" p) [e, e2] [] pos) (j - i).toNat (fun n => In (i + n)) O2 := fun σ G H Q E k =>
  PI.go (pi_range2 hg hm pa_run hs hs2) (h σ G H _ E fun vs G1 H1 s1 E1 p => by
    cases p with
    | cons p t =>
      cases t with
      | cons p2 t =>
        cases t
        exact ⟨i, j, by rw [isI p, isI p2], hb, k _ G1 H1 s1 E1 .rng⟩)
end
end Tp

namespace Tp
open PySem PySem.Spec PyProof.Rows L2

/-! ### defs -/
def SpV (as : List VR) (O O' : Own) (R : VR) : Sp := fun vs H Q _ =>
  ∃ G, FaR G as vs ∧ FrOk ⟨G, H, fun a => a ∈ O.map (·.1)⟩ O G H ∧ ∀ v G' H', FrOk ⟨G, H, fun a => a ∈ O.map (·.1)⟩ O' G' H' → R.p v G' → Q v H'
/-- a new list is handed back -/
def SpL (as : List VR) (O O' : Own) (ds : List PyData) : Sp := fun vs H Q _ =>
  ∃ G, FaR G as vs ∧ FrOk ⟨G, H, fun a => a ∈ O.map (·.1)⟩ O G H ∧ ∀ a G' H', FrOk ⟨G, H, fun a => a ∈ O.map (·.1)⟩ ((a, LsO ds) :: O') G' H' → H a = none → Q (.ref a) H'
/-- an exception leaves -/
def SpX (as : List VR) (O O' : Own) (ε : Value → Option Addr → Hp → Prop) : Sp := fun vs H _ E =>
  ∃ G, FaR G as vs ∧ FrOk ⟨G, H, fun a => a ∈ O.map (·.1)⟩ O G H ∧ ∀ cls d G' H', FrOk ⟨G, H, fun a => a ∈ O.map (·.1)⟩ O' G' H' → ε cls d G' → E cls d H'
/-- a def of the module as it may be called: dvs its defaults that fill up -/
structure Def1 (P : Program) (w : World) (K : PySem.W.Frag) (mg : Str → Option Value) (base : Heap) (x : Str) (k : Nat) (ps : List Str) (dvs : List V) (sp : Sp) : Prop where
  m : mg x = some (.ref (He.ga K x))
  kp : PySem.W.keepIn K (.ref (He.ga K x)) = true
  ex : ∃ fd ds, FnOk P w K mg base (L2.CX P w) k (He.ga K x) fd ps sp ∧ Binds K fd ps ds ∧ Vals dvs ds
/-- arguments of kinds Rs (and defaults) serve where as are asked -/
def SubL (Rs as : List VR) (dvs : List V) : Prop := ∀ G vs, FaR G Rs vs → FaR G as (vs ++ dvs)
theorem SubL.nil : SubL [] [] [] := fun G vs h => by cases h; exact .nil
theorem SubL.cons {R S : VR} {Rs as : List VR} {dvs : List V} (k : ∀ v G, R.p v G → S.p v G) (t : SubL Rs as dvs) : SubL (R :: Rs) (S :: as) dvs := fun G vs h => by
  cases h with
  | cons h h2 => exact .cons (k _ _ h) (t G _ h2)
theorem SubL.same {R : VR} {Rs as : List VR} {dvs : List V} (t : SubL Rs as dvs) : SubL (R :: Rs) (R :: as) dvs := .cons (fun _ _ h => h) t
theorem SubL.dfl {S : VR} {as : List VR} {v : V} {dvs : List V} (k : ∀ G, S.p v G) (t : SubL [] as dvs) : SubL [] (S :: as) (v :: dvs) := fun G vs h => by
  cases h
  exact .cons (k G) (t G [] .nil)
section
variable {X : Cx} {W : WX} {F : Fm} {C C1 C' : Ctx} {O O1 O2 O3 O' : Own} {e e2 e3 : Expr} {es : List Expr} {R R' S : VR} {Rs as : List VR} {pos p : Pos} {st : Stmt} {rest body els : List Stmt} {o : Out} {b c : Bool} {dvs : List V} {x : Str} {ps : List Str} {k : Nat} {ds : List PyData}
theorem he_call {Oc Oc' Or : Own} (D : Def1 X.prog X.w X.K X.mg X.base x k ps dvs (SpV as Oc Oc' R)) (hr : Room k X.A) (ha : HA X F C O (e :: es) Rs (Oc ++ Or)) (hs : SubL Rs as dvs) (hg : Gl X x := by rfl)
    (hdb : (x == ("__debug__" : Str)) = false := by decide) (he : starEach (e :: es) X.env = (false, eval e X.env) :: starEach es X.env := by rfl) (hpl : (backTo pos (starEach es X.env)).any (·.1) = false := by rfl) :
    HE X F C O (.Call (.Name x p) (e :: es) [] pos) R (Oc' ++ Or) := fun σ G H Q E kk => by
  obtain ⟨fd, ds, FO, bd, vd⟩ := D.ex
  refine PE.go (pe_call FO hr hg D.m D.kp bd vd passL pa_run hdb he hpl) (ha σ G H _ E fun vs G1 H1 s1 E1 p1 => ?_)
  exact ⟨G1, hs G1 vs p1, E1.fr.start, fun v G2 H2 f2 p2 => kk v G2 H2 (s1.trans f2.g) (E1.up (E1.fr.call f2) f2.g) p2⟩
theorem he_call0 {Oc Oc' Or : Own} (D : Def1 X.prog X.w X.K X.mg X.base x k ps dvs (SpV as Oc Oc' R)) (hr : Room k X.A) (hs : SubL [] as dvs) (ho : O = Oc ++ Or := by rfl) (hg : Gl X x := by rfl) (hdb : (x == ("__debug__" : Str)) = false := by decide) :
    HE X F C O (.Call (.Name x p) [] [] pos) R (Oc' ++ Or) := fun σ G H Q E kk => by
  subst ho
  obtain ⟨fd, ds, FO, bd, vd⟩ := D.ex
  refine PE.go (pe_call0 FO hr hg D.m D.kp bd vd passL hdb) ?_
  exact ⟨G, hs G [] .nil, E.fr.start, fun v G2 H2 f2 p2 => kk v G2 H2 f2.g (E.up (E.fr.call f2) f2.g) p2⟩
theorem hl_call {Oc Oc' Or : Own} (D : Def1 X.prog X.w X.K X.mg X.base x k ps dvs (SpL as Oc Oc' ds)) (hr : Room k X.A) (ha : HA X F C O (e :: es) Rs (Oc ++ Or)) (hs : SubL Rs as dvs) (hg : Gl X x := by rfl)
    (hdb : (x == ("__debug__" : Str)) = false := by decide) (he : starEach (e :: es) X.env = (false, eval e X.env) :: starEach es X.env := by rfl) (hpl : (backTo pos (starEach es X.env)).any (·.1) = false := by rfl) :
    HL X F C O (.Call (.Name x p) (e :: es) [] pos) ds (Oc' ++ Or) := fun σ G H Q E kk => by
  obtain ⟨fd, ds, FO, bd, vd⟩ := D.ex
  refine PE.go (pe_call FO hr hg D.m D.kp bd vd passL pa_run hdb he hpl) (ha σ G H _ E fun vs G1 H1 s1 E1 p1 => ?_)
  exact ⟨G1, hs G1 vs p1, E1.fr.start, fun a G2 H2 f2 p2 => kk a G2 H2 (s1.trans f2.g) (E1.fr.there a p2) (E1.up (E1.fr.call (O1' := _ :: Oc') f2) f2.g)⟩
/-- a built-in function, a built-in type, called: by values -/
theorem he_callB {id : String} {r : List V → Hp → VK → Prop} (hc : CallR X (.builtin id) r) (hm : X.mg x = none) (hv : bootBuiltins x = some (.builtin id)) (ha : HA X F C O (e :: es) Rs O1)
    (hr : ∀ vs G H Q, FrOk F O1 G H → FaR G Rs vs → (∀ v G' H', Same G G' → FrOk F O1 G' H' → R.p v G' → Q v H') → r vs H Q) (hg : Gl X x := by rfl) (hn : x ≠ "__name__" := by decide) (hdb : (x == ("__debug__" : Str)) = false := by decide)
    (he : starEach (e :: es) X.env = (false, eval e X.env) :: starEach es X.env := by rfl) (hpl : (backTo pos (starEach es X.env)).any (·.1) = false := by rfl) : HE X F C O (.Call (.Name x p) (e :: es) [] pos) R O1 := fun σ G H Q E kk =>
  PE.go (pe_callB hc hg hm hv pa_run hn hdb he hpl) (ha σ G H _ E fun vs G1 H1 s1 E1 p1 => hr vs G1 H1 Q E1.fr p1 fun v G2 H2 s2 f2 p2 => kk v G2 H2 (s1.trans s2) (E1.up f2 s2) p2)
theorem he_callTy {T : String} {r : List V → Hp → VK → Prop} (hc : CallR X (.type T) r) (hm : X.mg x = none) (hv : bootBuiltins x = some (.type T)) (ha : HA X F C O (e :: es) Rs O1)
    (hr : ∀ vs G H Q, FrOk F O1 G H → FaR G Rs vs → (∀ v G' H', Same G G' → FrOk F O1 G' H' → R.p v G' → Q v H') → r vs H Q) (hg : Gl X x := by rfl) (hn : x ≠ "__name__" := by decide) (hdb : (x == ("__debug__" : Str)) = false := by decide)
    (he : starEach (e :: es) X.env = (false, eval e X.env) :: starEach es X.env := by rfl) (hpl : (backTo pos (starEach es X.env)).any (·.1) = false := by rfl) : HE X F C O (.Call (.Name x p) (e :: es) [] pos) R O1 := fun σ G H Q E kk =>
  PE.go (pe_callTy hc hg hm hv pa_run hn hdb he hpl) (ha σ G H _ E fun vs G1 H1 s1 E1 p1 => hr vs G1 H1 Q E1.fr p1 fun v G2 H2 s2 f2 p2 => kk v G2 H2 (s1.trans s2) (E1.up f2 s2) p2)
theorem FaR.one {G : Hp} {R : VR} {vs : List V} (h : FaR G [R] vs) : ∃ v, vs = [v] ∧ R.p v G := by
  cases h with
  | cons h t => cases t; exact ⟨_, rfl, h⟩
theorem FaR.two {G : Hp} {R S : VR} {vs : List V} (h : FaR G [R, S] vs) : ∃ v u, vs = [v, u] ∧ R.p v G ∧ S.p u G := by
  cases h with
  | cons h t =>
    obtain ⟨u, rfl, hu⟩ := t.one
    exact ⟨_, u, rfl, h, hu⟩
theorem he_lenL (hm : X.mg "len" = none) (ha : HA X F C O [e] [Ls ds] O1) (hg : Gl X "len" := by rfl) (he : starEach [e] X.env = (false, eval e X.env) :: starEach [] X.env := by rfl) : HE X F C O (.Call (.Name "len" p) [e] [] pos) (In ds.length) O1 :=
  he_callB call_len_seq hm PySem.boot_len ha (fun vs G H Q f p k => by
    obtain ⟨v, rfl, hv⟩ := p.one
    obtain ⟨a, xs, rfl, h1, h2⟩ := isL hv
    exact ⟨a, xs, rfl, .inl (SqL.of (f.gh _ _ h1)), k _ G H (Same.refl G) f (by rw [h2.length]; exact .int _)⟩) hg (by decide) (by decide) he
theorem he_lenT (hm : X.mg "len" = none) (ha : HA X F C O [e] [Tu ds] O1) (hg : Gl X "len" := by rfl) (he : starEach [e] X.env = (false, eval e X.env) :: starEach [] X.env := by rfl) : HE X F C O (.Call (.Name "len" p) [e] [] pos) (In ds.length) O1 :=
  he_callB call_len_seq hm PySem.boot_len ha (fun vs G H Q f p k => by
    obtain ⟨v, rfl, hv⟩ := p.one
    obtain ⟨a, xs, rfl, h1, h2⟩ := isT hv
    exact ⟨a, xs, rfl, .inr (SqT.of (f.gh _ _ h1)), k _ G H (Same.refl G) f (by rw [h2.length]; exact .int _)⟩) hg (by decide) (by decide) he
theorem he_lenS {ns : List Int} (hm : X.mg "len" = none) (ha : HA X F C O [e] [Scr X.K ns] O1) (hg : Gl X "len" := by rfl) (he : starEach [e] X.env = (false, eval e X.env) :: starEach [] X.env := by rfl) : HE X F C O (.Call (.Name "len" p) [e] [] pos) (In ns.length) O1 :=
  he_callB call_len_seq hm PySem.boot_len ha (fun vs G H Q f p k => by
    obtain ⟨v, rfl, hv⟩ := p.one
    obtain ⟨a, rfl, h1⟩ := hv
    exact ⟨a, _, rfl, .inl (f.gh.seq h1), k _ G H (Same.refl G) f (by rw [List.length_map]; exact .int _)⟩) hg (by decide) (by decide) he
theorem he_lenO {a : Addr} (hm : X.mg "len" = none) (ho : (a, LsO ds) ∈ O1) (ha : HA X F C O [e] [Sv (.ref a)] O1) (hg : Gl X "len" := by rfl) (he : starEach [e] X.env = (false, eval e X.env) :: starEach [] X.env := by rfl) : HE X F C O (.Call (.Name "len" p) [e] [] pos) (In ds.length) O1 :=
  he_callB call_len_seq hm PySem.boot_len ha (fun vs G H Q f p k => by
    obtain ⟨v, rfl, hv⟩ := p.one
    obtain ⟨⟨o, h1, xs, rfl, h2⟩, _⟩ := f.own _ ho
    obtain rfl : v = .ref a := hv
    exact ⟨a, xs, rfl, .inl (SqL.of h1), k _ G H (Same.refl G) f (by rw [h2.length]; exact .int _)⟩) hg (by decide) (by decide) he
/-- the script's item -/
theorem he_ixS {ns : List Int} {i : Int} {n : Int} (h1 : HE X F C O e (Scr X.K ns) O1) (h2 : HE X F C O1 e2 (In i) O2) (hi : atI ns i = some n) (hs : PlainIx e2 := by exact fun _ _ => rfl) : HE X F C O (.Subscript e e2 pos) (In n) O2 := fun σ G H Q E k =>
  PE.go (pe_ix ix_list pe_run pe_run hs) (h1 σ G H _ E fun x G1 H1 s1 E1 p1 => h2 σ G1 H1 _ E1 fun y G2 H2 s2 E2 p2 => by
    obtain ⟨a, e, ha⟩ := (Scr X.K ns).m s2 p1
    refine ⟨a, ns.map V.int, i, .int n, e, isI p2, E2.fr.gh.seq ha, ?_, k _ G2 H2 (s1.trans s2) E2 (.int n)⟩
    show (ixN (ns.map V.int).length i).bind _ = some (V.int n)
    obtain ⟨j, e1, e2⟩ := Option.bind_eq_some_iff.mp (show (ixN ns.length i).bind _ = some n from hi)
    rw [List.length_map, e1]
    show (ns.map V.int)[j]? = _
    rw [List.getElem?_map, e2]; rfl)
theorem he_abs {i : Int} (hm : X.mg "abs" = none) (ha : HA X F C O [e] [In i] O1) (hg : Gl X "abs" := by rfl) (he : starEach [e] X.env = (false, eval e X.env) :: starEach [] X.env := by rfl) : HE X F C O (.Call (.Name "abs" p) [e] [] pos) (In i.natAbs) O1 :=
  he_callB call_abs hm (by decide +kernel) ha (fun vs G H Q f p k => by
    obtain ⟨v, rfl, hv⟩ := p.one
    refine ⟨i, by rw [isI hv], k _ G H (Same.refl G) f ?_⟩
    have e : (if i < 0 then -i else i) = ((i.natAbs : Nat) : Int) := by split <;> omega
    rw [e]; exact .int _) hg (by decide) (by decide) he
theorem he_max {i j : Int} (hm : X.mg "max" = none) (hc : X.calm = true) (ha : HA X F C O [e, e2] [In i, In j] O1) (hg : Gl X "max" := by rfl) (he : starEach [e, e2] X.env = (false, eval e X.env) :: starEach [e2] X.env := by rfl) (hpl : (backTo pos (starEach [e2] X.env)).any (·.1) = false := by rfl) : HE X F C O (.Call (.Name "max" p) [e, e2] [] pos) (In (max i j)) O1 :=
  he_callB (call_max2 hc) hm boot_max ha (fun vs G H Q f p k => by
    obtain ⟨v, u, rfl, hv, hu⟩ := p.two
    refine ⟨i, j, by rw [isI hv, isI hu], k _ G H (Same.refl G) f ?_⟩
    have e : (if j > i then j else i) = max i j := by split <;> omega
    rw [e]; exact .int _) hg (by decide) (by decide) he hpl
theorem he_min {i j : Int} (hm : X.mg "min" = none) (hc : X.calm = true) (ha : HA X F C O [e, e2] [In i, In j] O1) (hg : Gl X "min" := by rfl) (he : starEach [e, e2] X.env = (false, eval e X.env) :: starEach [e2] X.env := by rfl) (hpl : (backTo pos (starEach [e2] X.env)).any (·.1) = false := by rfl) : HE X F C O (.Call (.Name "min" p) [e, e2] [] pos) (In (min i j)) O1 :=
  he_callB (call_min2 hc) hm boot_min ha (fun vs G H Q f p k => by
    obtain ⟨v, u, rfl, hv, hu⟩ := p.two
    refine ⟨i, j, by rw [isI hv, isI hu], k _ G H (Same.refl G) f ?_⟩
    have e : (if j < i then j else i) = min i j := by split <;> omega
    rw [e]; exact .int _) hg (by decide) (by decide) he hpl
theorem he_intB {b : Bool} (hm : X.mg "int" = none) (ha : HA X F C O [e] [Bo b] O1) (hg : Gl X "int" := by rfl) (he : starEach [e] X.env = (false, eval e X.env) :: starEach [] X.env := by rfl) : HE X F C O (.Call (.Name "int" p) [e] [] pos) (In (if b then 1 else 0)) O1 :=
  he_callTy call_int1 hm PyProof.Rows.boot_int ha (fun vs G H Q f p k => by
    obtain ⟨v, rfl, hv⟩ := p.one
    exact .inr ⟨b, by rw [isB hv], k _ G H (Same.refl G) f (.int _)⟩) hg (by decide) (by decide) he
/-! isinstance -/
/-- the type of data, by name -/
def tyD : PyData → String
  | .none => "NoneType"
  | .bool _ => "bool"
  | .int _ => "int"
  | .str _ => "str"
  | .list _ => "list"
  | .tuple _ => "tuple"
  | .dict _ => "dict"
theorem ty_of {K : PySem.W.Frag} {G H : Hp} (f : Same G H) {v : V} : ∀ {d : PyData}, Is G v d → TyX K H v (.type (tyD d))
  | .none, h => by cases h; exact .base .non
  | .bool b, h => by cases h; exact .base (.bl b)
  | .int i, h => by cases h; exact .base (.int i)
  | .str x, h => by cases h; exact .base (.str x)
  | .list ds, h => by
    obtain ⟨a, xs, rfl, h1, _⟩ := isL h
    exact .base (.lst (f _ _ h1))
  | .tuple ds, h => by
    obtain ⟨a, xs, rfl, h1, _⟩ := isT h
    exact .base (.tup (f _ _ h1))
  | .dict _, h => by cases h
theorem he_isi {d : PyData} {T : String} {x2 : Str} {p2 : Pos} {r : Bool} (hm : X.mg "isinstance" = none) (hm2 : X.mg x2 = none) (hv : bootBuiltins x2 = some (.type T)) (ha : HA X F C O [e, .Name x2 p2] [Dv d, Sv (.ty T)] O1) (hk : kitB (tyD d) T = some r)
    (hg : Gl X "isinstance" := by rfl) (he : starEach [e, .Name x2 p2] X.env = (false, eval e X.env) :: starEach [.Name x2 p2] X.env := by rfl) (hpl : (backTo pos (starEach [.Name x2 p2] X.env)).any (·.1) = false := by rfl) :
    HE X F C O (.Call (.Name "isinstance" p) [e, .Name x2 p2] [] pos) (Bo r) O1 :=
  he_callB call_isi hm boot_isinstance ha (fun vs G H Q f p k => by
    obtain ⟨v, u, rfl, hv, hu⟩ := p.two
    obtain rfl : u = .ty T := hu
    exact ⟨v, .ty T, .type (tyD d), .type T, r, rfl, .ty T, ty_of f.gh hv, kit_ty hk, k _ G H (Same.refl G) f (.bl _)⟩) hg (by decide) (by decide) he hpl
/-! a def's body keeps its promise -/
theorem Sta.start {as : List VR} {vs : List V} {N ps : List Str} {G H : Hp} {F : Fm} {O : Own} (f : FrOk F O G H) (h : FaR G as vs) (hl : as.length = ps.length) : Sta F (as.map some ++ List.replicate (N.length - ps.length) none) O (start N vs) G H := by
  have hlen := h.length
  refine ⟨f, ?_, fun i R e => ?_⟩
  · unfold L2.start
    rw [List.length_append, List.length_append, List.length_map, List.length_map, List.length_replicate, List.length_replicate]
    omega
  · have go : ∀ {as : List VR} {vs : List V} {i : Nat}, FaR G as vs → as[i]? = some R → ∃ v, vs[i]? = some v ∧ R.p v G := by
      intro as vs i h
      induction h generalizing i with
      | nil => intro e; simp at e
      | cons h t ih =>
        intro e
        cases i with
        | zero => simp at e; subst e; exact ⟨_, rfl, h⟩
        | succ i => exact ih (by simpa using e)
    by_cases hi : i < as.length
    · rw [List.getElem?_append_left (by simpa using hi), List.getElem?_map] at e
      cases q : as[i]? with
      | none => rw [q] at e; cases e
      | some S =>
        rw [q] at e
        cases e
        obtain ⟨v, ev, pv⟩ := go h q
        refine ⟨v, ?_, pv⟩
        unfold L2.start
        have hv : i < vs.length := by omega
        rw [List.getElem?_append_left (by simpa using hv), List.getElem?_map, ev]; rfl
    · rw [List.getElem?_append_right (by simpa using hi), List.getElem?_replicate] at e
      split at e <;> cases e
end
section
variable {P : Program} {w : World} {K : PySem.W.Frag} {mg : Str → Option Value} {base : Heap} {x qual : Str} {params : Arguments} {body : List Stmt} {scope : Scope} {dvs : List V} {kws : List (Str × V)} {f : Addr} {fd : FuncData} {N ps : List Str} {k : Nat} {as : List VR} {O O' : Own} {R : VR} {o : Out}
/-- what the body must do -/
def BodyOk (P : Program) (w : World) (K : PySem.W.Frag) (mg : Str → Option Value) (base : Heap) (N ps : List Str) (qual : Str) (scope : Scope) (body : List Stmt) (f : Addr) (k : Nat) (as : List VR) (O : Own) (o : Out) : Prop :=
  ∀ (cdv : Value) (A : Around) (outer : List Env) (s : Shared) (H : Hp) (E : XK) (F : Fm), Room k (A.deeper (envOfC qual scope s.heap.objs.size f cdv)) →
    HB (cxOf (L2.CX P w) P w K mg base N qual scope f cdv A outer s H E).nox (fun _ _ _ _ => False) F (as.map some ++ List.replicate (N.length - ps.length) none) O body o
theorem fn_v (F : FunD K x qual params body scope dvs kws f fd) (S : FnScope N ps scope) (hl : as.length = ps.length) (hb : BodyOk P w K mg base N ps qual scope body f k as O (.rt R O')) :
    FnOk P w K mg base (L2.CX P w) (k + 1) f fd ps (SpV as O O' R) := by
  refine F.ok S (fun vs H Q E h => ?_) fun cdv A outer s H vs Q E hr h => ?_
  · obtain ⟨G, h1, _⟩ := h
    rw [h1.length, hl]
  · obtain ⟨G, h1, h2, h3⟩ := h
    refine ⟨_, pb_run.nox, ?_⟩
    exact hb cdv A outer s H E _ hr _ G H _ (Sta.start h2 h1 hl) fun v G' H' s' f' p => h3 v G' H' f' p
/-- a def that ends without return -/
theorem fn_n {C : Ctx} (F : FunD K x qual params body scope dvs kws f fd) (S : FnScope N ps scope) (hl : as.length = ps.length) (hb : BodyOk P w K mg base N ps qual scope body f k as O (.nx C O')) :
    FnOk P w K mg base (L2.CX P w) (k + 1) f fd ps (SpV as O O' No) := by
  refine F.ok S (fun vs H Q E h => ?_) fun cdv A outer s H vs Q E hr h => ?_
  · obtain ⟨G, h1, _⟩ := h
    rw [h1.length, hl]
  · obtain ⟨G, h1, h2, h3⟩ := h
    refine ⟨_, pb_run.nox, ?_⟩
    exact hb cdv A outer s H E _ hr _ G H _ (Sta.start h2 h1 hl) fun σ G' H' s' E' => h3 _ G' H' E'.fr .non
theorem fn_l {ds : List PyData} (F : FunD K x qual params body scope dvs kws f fd) (S : FnScope N ps scope) (hl : as.length = ps.length) (hb : BodyOk P w K mg base N ps qual scope body f k as O (.rl ds O')) :
    FnOk P w K mg base (L2.CX P w) (k + 1) f fd ps (SpL as O O' ds) := by
  refine F.ok S (fun vs H Q E h => ?_) fun cdv A outer s H vs Q E hr h => ?_
  · obtain ⟨G, h1, _⟩ := h
    rw [h1.length, hl]
  · obtain ⟨G, h1, h2, h3⟩ := h
    refine ⟨_, pb_run.nox, ?_⟩
    exact hb cdv A outer s H E _ hr _ G H _ (Sta.start h2 h1 hl) fun a G' H' s' f' hn => h3 a G' H' f' hn
/-- the table of the program: what its top has left -/
structure Tb (fa : List He.Fa) (fn : List He.DefD) (K : PySem.W.Frag) (mg : Str → Option Value) (h : Heap) : Prop where
  c : He.SaysD fa fn K
  X : K.In h
  G : h.Ns mainGlobals mg
theorem Tb.glo {fa : List He.Fa} {fn : List He.DefD} {h : Heap} (T : Tb fa fn K mg h) (x : Str) (i : Nat) (e : fa[i]? = some (.glo x) := by rfl) : mg x = some (.ref (He.ga K x)) := He.glo_ok T.X T.G (T.c.fact i e)
theorem Tb.free {fa : List He.Fa} {fn : List He.DefD} {h : Heap} (T : Tb fa fn K mg h) (x : Str) (i : Nat) (e : fa[i]? = some (.free x) := by rfl) : mg x = none := He.free_ok T.X T.G (T.c.fact i e)
theorem Tb.int {fa : List He.Fa} {fn : List He.DefD} {h : Heap} (T : Tb fa fn K mg h) (x : Str) (n : Int) (i : Nat) (e : fa[i]? = some (.int x n) := by rfl) : ∃ t, mg x = some (.int n t) := He.int_ok T.X T.G (T.c.fact i e)
theorem Tb.str {fa : List He.Fa} {fn : List He.DefD} {h : Heap} (T : Tb fa fn K mg h) (x z : Str) (i : Nat) (e : fa[i]? = some (.str x z) := by rfl) : ∃ t, mg x = some (.str z t) := He.str_ok T.X T.G (T.c.fact i e)
/-- a def without defaults -/
theorem def1 {fa : List He.Fa} {fn : List He.DefD} {h : Heap} {d : He.DefD} {sp : Sp} (T : Tb fa fn K mg h) (m : mg x = some (.ref (He.ga K x))) (i : Nat) (e : fn[i]? = some d) (hx : d.at_ = (x, none)) (hd : d.dfl = []) (hk : d.kwd = [])
    (hb : ∀ (kV doc pm : Value) (an : Option Addr) (cdv ct : Value) (us : List Value), us.length = ps.length → bindArgs (PySem.W.fnOf d.name d.qual d.params d.body d.scope .none kV doc pm an cdv ct) ⟨us, []⟩ = pure (ps.zip us))
    (ok : ∀ fd, FunD K d.name d.qual d.params d.body d.scope [] [] (He.ga K x) fd → FnOk P w K mg base (L2.CX P w) k (He.ga K x) fd ps sp) : Def1 P w K mg base x k ps [] sp := by
  obtain ⟨fd, FD⟩ := T.c.def_ i e
  have e1 : He.fAd K d.at_ = He.ga K x := by rw [hx]; rfl
  have e2 : d.dvs K = [] := by unfold He.DefD.dvs; rw [hd]; rfl
  have e3 : d.kws K = [] := by unfold He.DefD.kws; rw [hk]; rfl
  rw [e1, e2, e3] at FD
  obtain ⟨oc, od, dV, kV, doc, pm, an, cdv, ct, osl, h1, _, _, h4, _⟩ := id FD.ex
  have e4 : dV = .none := by
    rcases h4 with ⟨_, z⟩ | ⟨z, _⟩
    · exact z
    · exact absurd rfl z
  subst e4
  refine ⟨m, FD.kp, fd, [], ok fd FD, ?_, .nil⟩
  rw [h1]
  exact .all (hb kV doc pm an cdv ct)
end
end Tp

namespace Tp
open PySem PySem.Spec PyProof.Rows L2
section
variable {X : Cx} {W : WX} {F : Fm} {C C1 C' : Ctx} {O O1 O2 O3 O' : Own} {e e2 e3 : Expr} {es : List Expr} {R R' S : VR} {Rs as : List VR} {pos p : Pos} {st : Stmt} {rest body els : List Stmt} {o : Out} {b c : Bool} {dvs : List V} {x : Str} {ps : List Str} {k : Nat} {ds : List PyData}
theorem he_globI {n : Int} (h : ∃ t, X.mg x = some (.int n t)) (hg : Gl X x := by rfl) (hd : (x == ("__debug__" : Str)) = false := by decide) : HE X F C O (.Name x pos) (In n) O := by
  obtain ⟨t, h⟩ := h
  exact (he_glob (v := .int n) h ⟨t, rfl⟩ hg hd).mono fun v G e => by
    obtain rfl : v = .int n := e
    exact .int n
theorem he_globS {n : Str} (h : ∃ t, X.mg x = some (.str n t)) (hg : Gl X x := by rfl) (hd : (x == ("__debug__" : Str)) = false := by decide) : HE X F C O (.Name x pos) (St' n) O := by
  obtain ⟨t, h⟩ := h
  exact (he_glob (v := .str n) h ⟨t, rfl⟩ hg hd).mono fun v G e => by
    obtain rfl : v = .str n := e
    exact .str n
/-- the item of a thing at i is of kind S -/
def IxOk (K : PySem.W.Frag) (O : Own) (R : VR) (i : Int) (S : VR) : Prop :=
  ∀ F G H v (Q : VK), FrOk F O G H → R.p v G → (∀ w, S.p w G → Q w H) → rIx K v (.int i) H Q
theorem IxOk.tup {K : PySem.W.Frag} {i : Int} {d : PyData} (h : atI ds i = some d) : IxOk K O (Tu ds) i (Dv d) := fun F G H v Q f p k => by
  obtain ⟨a, xs, rfl, ha, r⟩ := isT p
  obtain ⟨j, e1, e2⟩ := Option.bind_eq_some_iff.mp (show (ixN ds.length i).bind _ = some d from h)
  obtain ⟨w, ew, pw⟩ := r.at e2
  refine .inr (.inl ⟨a, xs, i, w, rfl, rfl, SqT.of (f.gh _ _ ha), ?_, k w pw⟩)
  show (ixN xs.length i).bind _ = some w
  rw [r.length, e1]; exact ew
theorem IxOk.lst {K : PySem.W.Frag} {i : Int} {d : PyData} (h : atI ds i = some d) : IxOk K O (Ls ds) i (Dv d) := fun F G H v Q f p k => by
  obtain ⟨a, xs, rfl, ha, r⟩ := isL p
  obtain ⟨j, e1, e2⟩ := Option.bind_eq_some_iff.mp (show (ixN ds.length i).bind _ = some d from h)
  obtain ⟨w, ew, pw⟩ := r.at e2
  refine .inl ⟨a, xs, i, w, rfl, rfl, SqL.of (f.gh _ _ ha), ?_, k w pw⟩
  show (ixN xs.length i).bind _ = some w
  rw [r.length, e1]; exact ew
theorem IxOk.own {K : PySem.W.Frag} {i : Int} {d : PyData} {a : Addr} (ho : (a, LsO ds) ∈ O) (h : atI ds i = some d) : IxOk K O (Sv (.ref a)) i (Dv d) := fun F G H v Q f p k => by
  obtain ⟨⟨o, ha, xs, rfl, r⟩, _⟩ := f.own _ ho
  obtain ⟨j, e1, e2⟩ := Option.bind_eq_some_iff.mp (show (ixN ds.length i).bind _ = some d from h)
  obtain ⟨w, ew, pw⟩ := r.at e2
  obtain rfl : v = .ref a := p
  refine .inl ⟨a, xs, i, w, rfl, rfl, SqL.of ha, ?_, k w pw⟩
  show (ixN xs.length i).bind _ = some w
  rw [r.length, e1]; exact ew
theorem IxOk.scr {K : PySem.W.Frag} {ns : List Int} {i n : Int} (h : atI ns i = some n) : IxOk K O (Scr K ns) i (In n) := fun F G H v Q f p k => by
  obtain ⟨a, rfl, ha⟩ := p
  obtain ⟨j, e1, e2⟩ := Option.bind_eq_some_iff.mp (show (ixN ns.length i).bind _ = some n from h)
  refine .inl ⟨a, ns.map V.int, i, .int n, rfl, rfl, f.gh.seq ha, ?_, k _ (.int n)⟩
  show (ixN (ns.map V.int).length i).bind _ = some (V.int n)
  rw [List.length_map, e1]
  show (ns.map V.int)[j]? = _
  rw [List.getElem?_map, e2]; rfl
theorem he_ix {i : Int} (h1 : HE X F C O e R O1) (h2 : HE X F C O1 e2 (In i) O2) (hi : IxOk X.K O2 R i S) (hs : PlainIx e2 := by exact fun _ _ => rfl) : HE X F C O (.Subscript e e2 pos) S O2 := fun σ G H Q E k =>
  PE.go (pe_ix ix_seq pe_run pe_run hs) (h1 σ G H _ E fun x G1 H1 s1 E1 p1 => h2 σ G1 H1 _ E1 fun y G2 H2 s2 E2 p2 => by
    rw [isI p2]
    exact hi F G2 H2 x _ E2.fr (R.m s2 p1) fun w pw => k w G2 H2 (s1.trans s2) E2 pw)
def LenOk (K : PySem.W.Frag) (O : Own) (R : VR) (n : Nat) : Prop :=
  ∀ F G H v, FrOk F O G H → R.p v G → (∃ p ys, v = .ref p ∧ (SqL K H p ys ∨ SqT K H p ys) ∧ ys.length = n) ∨ ∃ z, v = .str z ∧ z.length ≤ sizeLine ∧ z.length = n
theorem LenOk.tup {K : PySem.W.Frag} : LenOk K O (Tu ds) ds.length := fun F G H v f p => by
  obtain ⟨a, xs, rfl, ha, r⟩ := isT p
  exact .inl ⟨a, xs, rfl, .inr (SqT.of (f.gh _ _ ha)), r.length⟩
theorem LenOk.lst {K : PySem.W.Frag} : LenOk K O (Ls ds) ds.length := fun F G H v f p => by
  obtain ⟨a, xs, rfl, ha, r⟩ := isL p
  exact .inl ⟨a, xs, rfl, .inl (SqL.of (f.gh _ _ ha)), r.length⟩
theorem LenOk.own {K : PySem.W.Frag} {a : Addr} (ho : (a, LsO ds) ∈ O) : LenOk K O (Sv (.ref a)) ds.length := fun F G H v f p => by
  obtain ⟨⟨o, ha, xs, rfl, r⟩, _⟩ := f.own _ ho
  exact .inl ⟨a, xs, p, .inl (SqL.of ha), r.length⟩
theorem LenOk.scr {K : PySem.W.Frag} {ns : List Int} : LenOk K O (Scr K ns) ns.length := fun F G H v f p => by
  obtain ⟨a, rfl, ha⟩ := p
  exact .inl ⟨a, _, rfl, .inl (f.gh.seq ha), by rw [List.length_map]⟩
theorem LenOk.str {K : PySem.W.Frag} {z : Str} (h : z.length ≤ sizeLine) : LenOk K O (St' z) z.length := fun F G H v f p => .inr ⟨z, isS p, h, rfl⟩
theorem he_len {n : Nat} (hm : X.mg "len" = none) (h : HE X F C O e R O1) (hl : LenOk X.K O1 R n) (hg : Gl X "len" := by rfl) (hs : starEach [e] X.env = (false, eval e X.env) :: starEach [] X.env := by rfl) : HE X F C O (.Call (.Name "len" p) [e] [] pos) (In n) O1 :=
  he_callB (call_len_seq.or call_len_str) hm PySem.boot_len (ha_cons h ha_nil hs) (fun vs G H Q f p k => by
    obtain ⟨v, rfl, hv⟩ := p.one
    rcases hl F G H v f hv with ⟨a, ys, rfl, h1, h2⟩ | ⟨z, rfl, h1, h2⟩
    · exact .inl ⟨a, ys, rfl, h1, k _ G H (Same.refl G) f (by rw [h2]; exact .int _)⟩
    · exact .inr ⟨z, rfl, h1, k _ G H (Same.refl G) f (by rw [h2]; exact .int _)⟩) hg (by decide) (by decide) hs
/-- a call of a def of the module, its parts in the order in which they are found -/
theorem he_c {Oc Oc' Or : Own} (ha : HA X F C O (e :: es) Rs (Oc ++ Or)) (hs : SubL Rs as dvs) (D : Def1 X.prog X.w X.K X.mg X.base x k ps dvs (SpV as Oc Oc' R)) (hr : Room k X.A) (hg : Gl X x := by rfl)
    (hdb : (x == ("__debug__" : Str)) = false := by decide) (he : starEach (e :: es) X.env = (false, eval e X.env) :: starEach es X.env := by rfl) (hpl : (backTo pos (starEach es X.env)).any (·.1) = false := by rfl) :
    HE X F C O (.Call (.Name x p) (e :: es) [] pos) R (Oc' ++ Or) := he_call D hr ha hs hg hdb he hpl
/-- .. of one that touches nothing -/
theorem he_cp (ha : HA X F C O (e :: es) Rs O1) (hs : SubL Rs as dvs) (D : Def1 X.prog X.w X.K X.mg X.base x k ps dvs (SpV as [] [] R)) (hr : Room k X.A) (hg : Gl X x := by rfl)
    (hdb : (x == ("__debug__" : Str)) = false := by decide) (he : starEach (e :: es) X.env = (false, eval e X.env) :: starEach es X.env := by rfl) (hpl : (backTo pos (starEach es X.env)).any (·.1) = false := by rfl) :
    HE X F C O (.Call (.Name x p) (e :: es) [] pos) R O1 := he_call (Oc := []) (Or := O1) D hr ha hs hg hdb he hpl
theorem hl_cp (ha : HA X F C O (e :: es) Rs O1) (hs : SubL Rs as dvs) (D : Def1 X.prog X.w X.K X.mg X.base x k ps dvs (SpL as [] [] ds)) (hr : Room k X.A) (hg : Gl X x := by rfl)
    (hdb : (x == ("__debug__" : Str)) = false := by decide) (he : starEach (e :: es) X.env = (false, eval e X.env) :: starEach es X.env := by rfl) (hpl : (backTo pos (starEach es X.env)).any (·.1) = false := by rfl) :
    HL X F C O (.Call (.Name x p) (e :: es) [] pos) ds O1 := hl_call (Oc := []) (Or := O1) D hr ha hs hg hdb he hpl
/-- isinstance(e, T), T a built-in type -/
theorem he_isT {d : PyData} {T : String} {x2 : Str} {p2 : Pos} {r : Bool} (hm : X.mg "isinstance" = none) (hm2 : X.mg x2 = none) (hv : bootBuiltins x2 = some (.type T)) (h : HE X F C O e (Dv d) O1) (hk : kitB (tyD d) T = some r)
    (hn : x2 ≠ "__name__" := by decide) (hd2 : (x2 == ("__debug__" : Str)) = false := by decide) (hg2 : Gl X x2 := by rfl) (hg : Gl X "isinstance" := by rfl) (he : starEach [e, .Name x2 p2] X.env = (false, eval e X.env) :: starEach [.Name x2 p2] X.env := by rfl) (he2 : starEach [.Name x2 p2] X.env = (false, eval (.Name x2 p2) X.env) :: starEach [] X.env := by rfl) (hpl : (backTo pos (starEach [.Name x2 p2] X.env)).any (·.1) = false := by rfl) :
    HE X F C O (.Call (.Name "isinstance" p) [e, .Name x2 p2] [] pos) (Bo r) O1 :=
  he_isi hm hm2 hv (ha_cons h (ha_cons (he_bltn hm2 hv rfl hg2 hn hd2) ha_nil he2) he) hk hg he hpl
theorem he_ifT (hc : HT X F C O e b O1) (hb : b = true) (h : HE X F C O1 e2 R O2) : HE X F C O (.IfExp e e2 e3 pos) R O2 :=
  he_if hc (fun _ => h) fun z => by rw [hb] at z; cases z
theorem he_ifF (hc : HT X F C O e b O1) (hb : b = false) (h : HE X F C O1 e3 R O2) : HE X F C O (.IfExp e e2 e3 pos) R O2 :=
  he_if hc (fun z => by rw [hb] at z; cases z) fun _ => h
theorem he_ifV {d1 d2 : PyData} (hc : HT X F C O e b O1) (h1 : b = true → HE X F C O1 e2 (Dv d1) O2) (h2 : b = false → HE X F C O1 e3 (Dv d2) O2) : HE X F C O (.IfExp e e2 e3 pos) (Dv (if b = true then d1 else d2)) O2 :=
  he_if hc (fun z => he_is (h1 z) (by rw [if_pos z])) fun z => he_is (h2 z) (by rw [if_neg (by rw [z]; decide)])
theorem he_ifI {i j : Int} (hc : HT X F C O e b O1) (h1 : b = true → HE X F C O1 e2 (In i) O2) (h2 : b = false → HE X F C O1 e3 (In j) O2) : HE X F C O (.IfExp e e2 e3 pos) (In (if b = true then i else j)) O2 :=
  he_if hc (fun z => he_is (h1 z) (by rw [if_pos z])) fun z => he_is (h2 z) (by rw [if_neg (by rw [z]; decide)])
/-- a, b, c = x, y, z (plain locals) -/
theorem hs_par3 (i j l : Nat) {x y z : Str} {px py pz pt : Pos} {kt k2 pt2} {R1 R2 R3 : VR} (hc : X.calm = true) (hN : X.N.Nodup) (ha : HA X F C O [e, e2, e3] [R1, R2, R3] O1) (hi : X.N[i]? = some x := by rfl) (hj : X.N[j]? = some y := by rfl) (hl : X.N[l]? = some z := by rfl) (hij : i ≠ j := by decide) (hil : i ≠ l := by decide) (hjl : j ≠ l := by decide)
    (hx : X.env.scope.names.lookup x = some .local := by rfl) (hy : X.env.scope.names.lookup y = some .local := by rfl) (hz : X.env.scope.names.lookup z = some .local := by rfl)
    (hw : swappedStores [.Tuple [.Name x px, .Name y py, .Name z pz] kt pt] (.Tuple [e, e2, e3] k2 pt2) X.env = pure (some [x, y, z]) := by rfl)
    (hs : swapsWithSole [.Tuple [.Name x px, .Name y py, .Name z pz] kt pt] (.Tuple [e, e2, e3] k2 pt2) pos.line X.env = pure false := by rfl) :
    HS X W F C O (.Assign [.Tuple [.Name x px, .Name y py, .Name z pz] kt pt] (.Tuple [e, e2, e3] k2 pt2) pos) (.nx (((C.set i (some R1)).set j (some R2)).set l (some R3)) O1) := fun σ G H D E k =>
  PS.go (ps_par3 hc hN hi hj hl hij hil hjl hx hy hz pa_run hw hs) (ha σ G H _ E fun vs G1 H1 s1 E1 p => by
    cases p with
    | cons p1 t =>
      cases t with
      | cons p2 t =>
        cases t with
        | cons p3 t =>
          cases t
          exact ⟨_, _, _, rfl, k _ G1 H1 s1 (((E1.set p1).set p2).set p3)⟩)
theorem he_orT {es : List Expr} (h1 : HE X F C O e (Bo b) O1) (hb : b = true) : HE X F C O (.BoolOp .Or (e :: e2 :: es) pos) (Bo true) O1 :=
  he_is (he_or (c := true) h1 (fun z => by rw [hb] at z; cases z) fun _ => rfl) (by rw [hb]; rfl)
theorem he_andF {es : List Expr} (h1 : HE X F C O e (Bo b) O1) (hb : b = false) : HE X F C O (.BoolOp .And (e :: e2 :: es) pos) (Bo false) O1 :=
  he_is (he_and (c := true) h1 (fun z => by rw [hb] at z; cases z) fun _ => rfl) (by rw [hb]; rfl)
theorem ht_orT {es : List Expr} (h1 : HT X F C O e b O1) (hb : b = true) : HW X F C O (.BoolOp .Or (e :: e2 :: es) pos) true O1 := by
  have := ht_or (c := true) (es := es) (e2 := e2) (pos := pos) h1 (fun z => by rw [hb] at z; cases z) fun _ => rfl
  rw [hb] at this; exact this
theorem ht_andF {es : List Expr} (h1 : HT X F C O e b O1) (hb : b = false) : HW X F C O (.BoolOp .And (e :: e2 :: es) pos) false O1 := by
  have := ht_and (c := true) (es := es) (e2 := e2) (pos := pos) h1 (fun z => by rw [hb] at z; cases z) fun _ => rfl
  rw [hb] at this; exact this
theorem had_nil : HA X F C O [] (List.map Dv []) O := ha_nil
theorem had_cons {d : PyData} (h : HE X F C O e (Dv d) O1) (t : HA X F C O1 es (List.map Dv ds) O2) (hs : starEach (e :: es) X.env = (false, eval e X.env) :: starEach es X.env := by rfl) : HA X F C O (e :: es) (List.map Dv (d :: ds)) O2 := ha_cons h t hs
theorem hu_room {A : Around} {k : Nat} (hr : Room k A) : A.units + 64 < cLine := hr.units
theorem hb_dead (h : False) : HB X W F C O rest o := h.elim
theorem he_dead (h : False) : HE X F C O e R O' := h.elim
end
end Tp

/-! numbers: the greatest common divisor, ratios, their sizes -/
namespace Mq
open PySem
theorem gcd_step (i j : Int) : Int.gcd j (i.fmod j) = Int.gcd i j := by
  rw [Int.fmod_def]
  rw [Int.gcd_comm i j, Int.sub_eq_add_neg, ← Int.mul_neg]
  exact Int.gcd_add_mul_left_right ..
theorem fmod_abs (i : Int) {j : Int} (h : j ≠ 0) : (i.fmod j).natAbs < j.natAbs := by
  rcases Int.lt_or_gt_of_ne h with h1 | h1
  · have h2 := Int.neg_fmod_neg i j
    have h3 : (-i).fmod (-j) < -j := Int.fmod_lt_of_pos _ (by omega)
    have h4 : 0 ≤ (-i).fmod (-j) := Int.fmod_nonneg_of_pos _ (by omega)
    omega
  · have h3 := Int.fmod_lt_of_pos i h1
    have h4 := Int.fmod_nonneg_of_pos i h1
    omega
/-- a ratio's two parts, from any two numbers -/
theorem ratio_parts (n d : Int) (hd : d ≠ 0) (s : Int) (hs : s = if d > 0 then 1 else -1) :
    n.fdiv ((Int.gcd n d : Int) * s) = (Rat.divInt n d).num ∧ d.fdiv ((Int.gcd n d : Int) * s) = (Rat.divInt n d).den := by
  have hg : (Int.gcd n d : Int) ≠ 0 := by
    intro z
    have : Int.gcd n d = 0 := by omega
    rw [Int.gcd_eq_zero_iff] at this
    exact hd this.2
  have hg0 : 0 < (Int.gcd n d : Int) := by omega
  obtain ⟨a, ha⟩ := Int.gcd_dvd_left (a := n) (b := d)
  obtain ⟨b, hb⟩ := Int.gcd_dvd_right (a := n) (b := d)
  rw [Rat.num_divInt, Rat.den_divInt, if_neg hd, Int.gcd_comm d n]
  generalize hgg : (Int.gcd n d) = g at *
  by_cases h : d > 0
  · rw [if_pos h] at hs
    subst hs
    have hsg : d.sign = 1 := Int.sign_eq_one_of_pos h
    rw [hsg, Int.mul_one, Int.one_mul]
    refine ⟨?_, ?_⟩
    · rw [Int.fdiv_eq_ediv_of_nonneg _ (by omega)]
    · rw [Int.fdiv_eq_ediv_of_nonneg _ (by omega), Int.natCast_ediv]
      have : ((d.natAbs : Nat) : Int) = d := by omega
      rw [this]
  · rw [if_neg h] at hs
    subst hs
    have hsg : d.sign = -1 := Int.sign_eq_neg_one_of_neg (by omega)
    rw [hsg]
    have e1 : ∀ x : Int, x.fdiv ((g : Int) * -1) = (-x) / (g : Int) := fun x => by
      have := Int.neg_fdiv_neg (-x) (g : Int)
      rw [Int.neg_neg] at this
      have e2 : (g : Int) * -1 = -(g : Int) := by omega
      rw [e2, this, Int.fdiv_eq_ediv_of_nonneg _ (by omega)]
    rw [e1, e1]
    refine ⟨by rw [Int.neg_one_mul], ?_⟩
    rw [Int.natCast_ediv]
    have : ((d.natAbs : Nat) : Int) = -d := by omega
    rw [this]
/-! sizes -/
def Sz (k : Nat) (q : Rat) : Prop := q.num.natAbs < 2 ^ k ∧ q.den < 2 ^ k
theorem Sz.up {a b : Nat} {q : Rat} (h : Sz a q) (l : a ≤ b) : Sz b q :=
  ⟨Nat.lt_of_lt_of_le h.1 (Nat.pow_le_pow_right (by decide) l), Nat.lt_of_lt_of_le h.2 (Nat.pow_le_pow_right (by decide) l)⟩
theorem mul_lt {a b x y : Nat} (hx : x < 2 ^ a) (hy : y < 2 ^ b) : x * y < 2 ^ (a + b) := by
  rw [Nat.pow_add]; exact Nat.mul_lt_mul'' hx hy
theorem mkRat_le (n : Int) (d : Nat) (hd : d ≠ 0) : (mkRat n d).num.natAbs ≤ n.natAbs ∧ (mkRat n d).den ≤ d := by
  rw [Rat.num_mkRat, Rat.den_mkRat, if_neg hd, if_neg hd]
  refine ⟨?_, Nat.div_le_self _ _⟩
  exact Int.natAbs_ediv_le_natAbs _ _
theorem Sz.mk {k : Nat} {n : Int} {d : Nat} (hd : d ≠ 0) (h1 : n.natAbs < 2 ^ k) (h2 : d < 2 ^ k) : Sz k (mkRat n d) :=
  ⟨Nat.lt_of_le_of_lt (mkRat_le n d hd).1 h1, Nat.lt_of_le_of_lt (mkRat_le n d hd).2 h2⟩
theorem two_mul_lt {a x y : Nat} (hx : x < 2 ^ a) (hy : y < 2 ^ a) : x + y < 2 ^ (a + 1) := by
  rw [Nat.pow_succ]; omega
theorem Sz.add {a b : Nat} {p q : Rat} (hp : Sz a p) (hq : Sz b q) : Sz (a + b + 1) (p + q) := by
  rw [Rat.add_def']
  have hd : p.den * q.den ≠ 0 := Nat.mul_ne_zero p.den_nz q.den_nz
  refine Sz.mk hd ?_ (Nat.lt_of_lt_of_le (mul_lt hp.2 hq.2) (Nat.pow_le_pow_right (by decide) (by omega)))
  have h1 : (p.num * q.den).natAbs < 2 ^ (a + b) := by rw [Int.natAbs_mul]; exact mul_lt hp.1 hq.2
  have h2 : (q.num * p.den).natAbs < 2 ^ (a + b) := by rw [Int.natAbs_mul, Nat.mul_comm]; exact mul_lt hp.2 hq.1
  exact Nat.lt_of_le_of_lt (Int.natAbs_add_le _ _) (two_mul_lt h1 h2)
theorem Sz.neg {a : Nat} {p : Rat} (hp : Sz a p) : Sz a (-p) := ⟨by rw [Rat.neg_num, Int.natAbs_neg]; exact hp.1, hp.2⟩
theorem Sz.sub {a b : Nat} {p q : Rat} (hp : Sz a p) (hq : Sz b q) : Sz (a + b + 1) (p - q) := by
  rw [Rat.sub_eq_add_neg]; exact hp.add hq.neg
theorem Sz.mul {a b : Nat} {p q : Rat} (hp : Sz a p) (hq : Sz b q) : Sz (a + b) (p * q) := by
  rw [Rat.mul_def']
  have hd : p.den * q.den ≠ 0 := Nat.mul_ne_zero p.den_nz q.den_nz
  exact Sz.mk hd (by rw [Int.natAbs_mul]; exact mul_lt hp.1 hq.1) (mul_lt hp.2 hq.2)
theorem Sz.inv {a : Nat} {p : Rat} (hp : Sz a p) : Sz a p⁻¹ := by
  refine ⟨?_, ?_⟩
  · rw [Rat.num_inv, Int.natAbs_mul]
    have h1 : p.num.sign.natAbs ≤ 1 := by
      rcases Int.lt_trichotomy p.num 0 with h | h | h
      · rw [Int.sign_eq_neg_one_of_neg h]; decide
      · rw [h]; decide
      · rw [Int.sign_eq_one_of_pos h]; decide
    have h2 : ((p.den : Int)).natAbs = p.den := by omega
    rw [h2]
    exact Nat.lt_of_le_of_lt (Nat.le_trans (Nat.mul_le_mul_right _ h1) (by omega)) hp.2
  · rw [Rat.den_inv]
    split
    · have := hp.2; have := p.den_pos; omega
    · exact hp.1
theorem Sz.div {a b : Nat} {p q : Rat} (hp : Sz a p) (hq : Sz b q) : Sz (a + b) (p / q) := by
  rw [Rat.div_def]; exact hp.mul hq.inv
theorem Sz.int {a : Nat} {n : Int} (ha : 0 < a) (h : n.natAbs < 2 ^ a) : Sz a (n : Rat) := by
  refine ⟨h, ?_⟩
  show 1 < 2 ^ a
  cases a with
  | zero => omega
  | succ a => have : 0 < 2 ^ a := Nat.pow_pos (by decide); rw [Nat.pow_succ]; omega
theorem floor_lt {a : Nat} {q : Rat} (h : Sz a q) : q.floor.natAbs < 2 ^ a := by
  rw [Rat.floor_def]
  exact Nat.lt_of_le_of_lt (Int.natAbs_ediv_le_natAbs _ _) h.1
theorem Sz.pos {a : Nat} {q : Rat} (h : Sz a q) : 0 < a := by
  cases a with
  | zero => have h2 := h.2; have := q.den_pos; simp at h2; omega
  | succ a => omega
theorem Sz.floor {a : Nat} {q : Rat} (h : Sz a q) : Sz a ((q.floor : Int) : Rat) := Sz.int h.pos (floor_lt h)
/-! the sums of the program -/
theorem add_parts (p q : Rat) : Rat.divInt (p.num * q.den + q.num * p.den) ((p.den : Int) * q.den) = p + q := by
  rw [Rat.add_def', ← Rat.divInt_ofNat, Int.natCast_mul]
theorem sub_parts (p q : Rat) : Rat.divInt (p.num * q.den - q.num * p.den) ((p.den : Int) * q.den) = p - q := by
  rw [Rat.sub_def', ← Rat.divInt_ofNat, Int.natCast_mul]
theorem mul_parts (p q : Rat) : Rat.divInt (p.num * q.num) ((p.den : Int) * q.den) = p * q := by
  rw [Rat.mul_def', ← Rat.divInt_ofNat, Int.natCast_mul]
theorem div_parts (p q : Rat) : Rat.divInt (p.num * q.den) ((p.den : Int) * q.num) = p / q := by
  rw [Rat.div_def, Rat.inv_def]
  conv => rhs; lhs; rw [← Rat.num_divInt_den p]
  rw [Rat.divInt_mul_divInt]
def cmpQ (p q : Rat) : Int := if p < q then -1 else if q < p then 1 else 0
theorem cmp_parts (p q : Rat) : (if decide ((0 : Int) < (p - q).num) = true then (1 : Int) else 0) - (if decide ((p - q).num < 0) = true then (1 : Int) else 0) = cmpQ p q := by
  have h1 : (p - q).num < 0 ↔ p < q := by
    rw [← Int.not_le, Rat.num_nonneg, ← Rat.le_iff_sub_nonneg, Rat.not_le]
  have h2 : 0 < (p - q).num ↔ q < p := by
    have e : (q - p).num = -(p - q).num := by rw [← Rat.neg_sub, Rat.neg_num]
    have h3 : (q - p).num < 0 ↔ q < p := by
      rw [← Int.not_le, Rat.num_nonneg, ← Rat.le_iff_sub_nonneg, Rat.not_le]
    rw [← h3, e]; omega
  unfold cmpQ
  simp only [decide_eq_true_eq, h1, h2]
  by_cases a : p < q
  · have b : ¬ q < p := Rat.not_lt.mpr (Rat.le_of_lt a)
    rw [if_pos a, if_neg b, if_pos a]; rfl
  · rw [if_neg a, if_neg a]
    by_cases b : q < p
    · rw [if_pos b]; rfl
    · rw [if_neg b]; rfl
/-- the rest by a modulus -/
def rem (p q : Rat) : Rat := p - q * ((p / q).floor : Int)
/-! numbers in order -/
/-- a number times a common multiple of the denominators -/
def wv (c : Nat) (q : Rat) : Int := q.num * ((c : Int) / (q.den : Int))
theorem wv_rat {c : Nat} {q : Rat} (hc : c ≠ 0) (h : q.den ∣ c) : Rat.divInt (wv c q) c = q := by
  obtain ⟨m, rfl⟩ := h
  have hm : m ≠ 0 := by intro z; subst z; simp at hc
  have e : ((q.den * m : Nat) : Int) / (q.den : Int) = m := by
    rw [Int.natCast_mul]; exact Int.mul_ediv_cancel_left _ (by have := q.den_pos; omega)
  unfold wv
  rw [e, Int.natCast_mul, Rat.divInt_mul_right (by omega)]
  exact Rat.num_divInt_den q
theorem wv_eq {c : Nat} {q : Rat} (hc : c ≠ 0) (h : q.den ∣ c) : ((wv c q : Int) : Rat) = q * (c : Rat) := by
  have hc2 : ((c : Int) : Rat) ≠ 0 := by
    intro z; exact hc (by exact_mod_cast z)
  have e := wv_rat hc h
  rw [Rat.divInt_eq_div] at e
  conv => rhs; rw [← e]
  rw [Rat.intCast_natCast] at *
  exact (Rat.div_mul_cancel (by exact_mod_cast hc)).symm
theorem wv_lt {c : Nat} {p q : Rat} (hc : c ≠ 0) (hp : p.den ∣ c) (hq : q.den ∣ c) (h : p < q) : wv c p < wv c q := by
  have h1 : ((wv c p : Int) : Rat) < ((wv c q : Int) : Rat) := by
    rw [wv_eq hc hp, wv_eq hc hq]
    have : (0 : Rat) < (c : Rat) := by
      have : 0 < c := by omega
      exact_mod_cast this
    exact Rat.mul_lt_mul_of_pos_right h this
  exact_mod_cast h1
/-- the least common multiple of the denominators -/
def cmn : List Rat → Nat → Nat
  | [], c => c
  | q :: qs, c => cmn qs (Nat.lcm c q.den)
theorem cmn_snoc (qs : List Rat) (q : Rat) : ∀ c, cmn (qs ++ [q]) c = Nat.lcm (cmn qs c) q.den := by
  induction qs with
  | nil => intro c; rfl
  | cons p qs ih => intro c; exact ih _
theorem cmn_pos (qs : List Rat) : ∀ c, c ≠ 0 → cmn qs c ≠ 0 := by
  induction qs with
  | nil => intro c h; exact h
  | cons p qs ih => intro c h; exact ih _ (Nat.lcm_ne_zero h (by have := p.den_pos; omega))
theorem cmn_dvd0 (qs : List Rat) : ∀ c, c ∣ cmn qs c := by
  induction qs with
  | nil => intro c; exact Nat.dvd_refl _
  | cons p qs ih => intro c; exact Nat.dvd_trans (Nat.dvd_lcm_left _ _) (ih _)
theorem cmn_dvd (qs : List Rat) : ∀ c q, q ∈ qs → q.den ∣ cmn qs c := by
  induction qs with
  | nil => intro c q h; cases h
  | cons p qs ih =>
    intro c q h
    rcases List.mem_cons.mp h with e | e
    · subst e; exact Nat.dvd_trans (Nat.dvd_lcm_right _ _) (cmn_dvd0 _ _)
    · exact ih _ _ e
theorem cmn_lt {k : Nat} (qs : List Rat) : ∀ c a, c < 2 ^ a → (∀ q ∈ qs, Sz k q) → cmn qs c < 2 ^ (a + k * qs.length) := by
  induction qs with
  | nil => intro c a h _; exact h
  | cons p qs ih =>
    intro c a h hs
    have h1 : Nat.lcm c p.den < 2 ^ (a + k) := by
      by_cases z : c = 0
      · subst z; rw [Nat.lcm_zero_left]; exact Nat.two_pow_pos _
      · exact Nat.lt_of_le_of_lt (Nat.le_of_dvd (Nat.mul_pos (by omega) p.den_pos) (Nat.lcm_dvd_mul _ _)) (mul_lt h (hs p List.mem_cons_self).2)
    have h2 := ih _ _ h1 fun q hq => hs q (List.mem_cons_of_mem _ hq)
    rw [List.length_cons, Nat.mul_succ]
    have e : a + k + k * qs.length = a + (k * qs.length + k) := by omega
    rw [← e]; exact h2
theorem lcm_step (c d : Nat) : ((c : Int) * d) / (Int.gcd c d : Int) = (Nat.lcm c d : Nat) := by
  rw [← Int.natCast_mul]
  show ((c * d : Nat) : Int) / ((Nat.gcd c d : Nat) : Int) = _
  rw [← Int.natCast_ediv]; rfl
theorem rlt_trans {p q r : Rat} (h1 : p < q) (h2 : q < r) : p < r := by
  rw [← Rat.not_le] at h2 ⊢
  exact fun h => h2 (Rat.le_trans h (Rat.le_of_lt h1))
/-- the members in order, each once -/
theorem rsort (qs : List Rat) : ∃ rs : List Rat, rs.Pairwise (· < ·) ∧ (∀ q, q ∈ rs ↔ q ∈ qs) ∧ rs.length ≤ qs.length := by
  induction qs with
  | nil => exact ⟨[], .nil, fun q => Iff.rfl, Nat.le_refl _⟩
  | cons p qs ih =>
    obtain ⟨rs, h1, h2, h3⟩ := ih
    have key : ∀ rs : List Rat, rs.Pairwise (· < ·) → ∃ ss : List Rat, ss.Pairwise (· < ·) ∧ (∀ q, q ∈ ss ↔ q = p ∨ q ∈ rs) ∧ ss.length ≤ rs.length + 1 := by
      intro rs
      induction rs with
      | nil => intro _; exact ⟨[p], List.pairwise_singleton _ _, fun q => by simp, Nat.le_refl _⟩
      | cons r rs ih =>
        intro h
        obtain ⟨a, b⟩ := List.pairwise_cons.mp h
        by_cases h1 : p < r
        · refine ⟨p :: r :: rs, List.pairwise_cons.mpr ⟨fun x hx => ?_, h⟩, fun q => List.mem_cons, Nat.le_refl _⟩
          rcases List.mem_cons.mp hx with e | e
          · rw [e]; exact h1
          · exact rlt_trans h1 (a x e)
        · by_cases h2 : p = r
          · refine ⟨r :: rs, h, fun q => ?_, by simp⟩
            rw [h2, List.mem_cons]
            exact ⟨fun z => .inr z, fun z => z.elim .inl id⟩
          · have h3 : r < p := by
              rcases Rat.le_iff_lt_or_eq.mp (Rat.not_lt.mp h1) with z | z
              · exact z
              · exact absurd z.symm h2
            obtain ⟨ss, s1, s2, s3⟩ := ih b
            refine ⟨r :: ss, List.pairwise_cons.mpr ⟨fun x hx => ?_, s1⟩, fun q => ?_, by simp only [List.length_cons]; omega⟩
            · rcases (s2 x).mp hx with e | e
              · rw [e]; exact h3
              · exact a x e
            · rw [List.mem_cons, s2, List.mem_cons]
              constructor
              · rintro (z | z | z)
                · exact .inr (.inl z)
                · exact .inl z
                · exact .inr (.inr z)
              · rintro (z | z | z)
                · exact .inr (.inl z)
                · exact .inl z
                · exact .inr (.inr z)
    obtain ⟨ss, s1, s2, s3⟩ := key rs h1
    refine ⟨ss, s1, fun q => ?_, by rw [List.length_cons]; omega⟩
    rw [s2, h2, List.mem_cons]
end Mq

namespace PySem
theorem gives_sub_bb (a b : Bool) : Gives (Builtin.«int.__sub__» ⟨[.bool a, .bool b], []⟩) (.int ((if a = true then (1 : Int) else 0) - (if b = true then (1 : Int) else 0))) :=
  .of_wp fun M A E s Q h => by obtain ⟨hp, g, d, tk, os⟩ := s; wp_walk; exact ⟨_, rfl, h⟩
theorem sub_bb {prog : Program} {w : World} {A : Around} {E : Value → Shared → Prop} {s : Shared} {Q : Value → Shared → Prop} {a b : Bool} (h : Q (.int ((if a = true then (1 : Int) else 0) - (if b = true then (1 : Int) else 0)) s.toks) { s with toks := s.toks + 1 }) :
    wpAny (model prog w) A (binaryOp .Sub (.bool a) (.bool b)) Q E s :=
  wpAny_binaryOp_same (op := .Sub) (T := "bool") rfl rfl F.fills_bool_sub F.slot_bool_sub (call_gives F.slot_bool_sub rfl F.entry_int_sub (F.args_int_sub_2 _ _) (gives_sub_bb a b) (Made.post_and trivial h))
end PySem
namespace Tp
open PySem PySem.Spec PyProof.Rows L2 Mq
/-! ### ratios as data -/
def ratD (q : Rat) : PyData := .tuple [.int q.num, .int q.den]
abbrev Rt (q : Rat) : VR := Dv (ratD q)
/-- a number as it may be written: an int (if it is one) or a ratio -/
def numD (b : Bool) (q : Rat) : PyData := if b then .int q.num else ratD q
def Nm (q : Rat) : VR := ⟨fun v H => (q.den = 1 ∧ Is H v (.int q.num)) ∨ Is H v (ratD q), fun e h => h.elim (fun z => .inl ⟨z.1, Is.up e _ _ z.2⟩) fun z => .inr (Is.up e _ _ z)⟩
theorem nm_int {n : Int} : ∀ v H, (In n).p v H → (Nm (n : Rat)).p v H := fun v H h => .inl ⟨rfl, h⟩
theorem nm_rat {q : Rat} : ∀ v H, (Rt q).p v H → (Nm q).p v H := fun v H h => .inr h
section
variable {X : Cx} {W : WX} {F : Fm} {C C1 C' : Ctx} {O O1 O2 O3 O' : Own} {e e2 e3 : Expr} {es : List Expr} {R R' S : VR} {Rs as : List VR} {pos p : Pos} {st : Stmt} {rest body els : List Stmt} {o : Out} {b c : Bool} {dvs : List V} {x : Str} {ps : List Str} {k : Nat} {ds : List PyData}
/-- a number is an int or a ratio -/
theorem HB.nm {q : Rat} (i : Nat) (hi : C[i]? = some (some (Nm q))) (h1 : q.den = 1 → HB X W F (C.set i (some (In q.num))) O rest o) (h2 : HB X W F (C.set i (some (Rt q))) O rest o) : HB X W F C O rest o := fun σ G H D E k => by
  obtain ⟨v, ev, p⟩ := E.slot i _ hi
  have fix : σ.set i (some v) = σ := by
    apply List.ext_getElem?
    intro j
    by_cases e : i = j
    · subst e
      have hl : i < σ.length := (List.getElem?_eq_some_iff.mp ev).1
      rw [List.getElem?_set_self hl, ev]
    · rw [List.getElem?_set_ne e]
  rcases p with ⟨hd, p⟩ | p
  · have E2 := E.set (i := i) (R := In q.num) (v := v) p
    rw [fix] at E2
    exact h1 hd σ G H D E2 k
  · have E2 := E.set (i := i) (R := Rt q) (v := v) p
    rw [fix] at E2
    exact h2 σ G H D E2 k
theorem op_sub_bb : OpR X (binaryOp .Sub) (fun x y H Q => ∃ i j, x = .bl i ∧ y = .bl j ∧ Q (.int ((if i = true then (1 : Int) else 0) - (if j = true then (1 : Int) else 0))) H) := by
  intro pins s σ H x y v u Q I rx ry h
  obtain ⟨i, j, rfl, rfl, q⟩ := h
  cases rx
  cases ry
  exact sub_bb ⟨.int _, H, I.tok _, ⟨_, rfl⟩, q⟩
theorem he_subB (h1 : HE X F C O e (Bo b) O1) (h2 : HE X F C O1 e2 (Bo c) O2) : HE X F C O (.BinOp e .Sub e2 pos) (In ((if b = true then (1 : Int) else 0) - (if c = true then (1 : Int) else 0))) O2 :=
  he_op op_sub_bb h1 h2 fun x y G H Q f p1 p2 k => ⟨b, c, isB p1, isB p2, k _ G H (Same.refl G) f (.int _)⟩
end
/-- a def with defaults: n values are written, the defaults behind the first j fill up -/
theorem def2 {P : Program} {w : World} {K : PySem.W.Frag} {mg : Str → Option Value} {base h : Heap} {x : Str} {k : Nat} {ps : List Str} {fa : List He.Fa} {fn : List He.DefD} {d : He.DefD} {sp : Sp} {dv : List V} (T : Tb fa fn K mg h) (m : mg x = some (.ref (He.ga K x))) (i : Nat) (e : fn[i]? = some d) (hx : d.at_ = (x, none)) (hd : d.dvs K = dv) (hk : d.kwd = [])
    (n j : Nat) (hne : dv ≠ []) (hn : n + (dv.length - j) = ps.length)
    (hb : ∀ (T : Addr) (kV doc pm : Value) (an : Option Addr) (cdv ct : Value) (us its : List Value), us.length = n → its.length = dv.length →
      ∃ k, bindArgs (PySem.W.fnOf d.name d.qual d.params d.body d.scope (.ref T) kV doc pm an cdv ct) ⟨us, []⟩ = seqItems? (.ref T) >>= k ∧ k (some its.toArray) = pure (ps.zip (us ++ its.drop j)))
    (ok : ∀ fd, FunD K d.name d.qual d.params d.body d.scope dv [] (He.ga K x) fd → FnOk P w K mg base (L2.CX P w) k (He.ga K x) fd ps sp) : Def1 P w K mg base x k ps (dv.drop j) sp := by
  obtain ⟨fd, FD⟩ := T.c.def_ i e
  have e1 : He.fAd K d.at_ = He.ga K x := by rw [hx]; rfl
  have e3 : d.kws K = [] := by unfold He.DefD.kws; rw [hk]; rfl
  rw [e1, hd, e3] at FD
  obtain ⟨ds, vd, bd⟩ := FD.binds1 (ps := ps) n j hne hn hb
  exact ⟨m, FD.kp, fd, ds, ok fd FD, bd, vd⟩
/-! isinstance of data -/
def isIB : PyData → Bool
  | .int _ => true
  | .bool _ => true
  | _ => false
def isBD : PyData → Bool
  | .bool _ => true
  | _ => false
def isTD : PyData → Bool
  | .tuple _ => true
  | _ => false
def isLD : PyData → Bool
  | .list _ => true
  | _ => false
def isSD : PyData → Bool
  | .str _ => true
  | _ => false
def isID : PyData → Bool
  | .int _ => true
  | _ => false
theorem kit_int (d : PyData) : kitB (tyD d) "int" = some (isIB d) := by cases d <;> (simp only [tyD, isIB]; decide +kernel)
theorem kit_bool (d : PyData) : kitB (tyD d) "bool" = some (isBD d) := by cases d <;> (simp only [tyD, isBD]; decide +kernel)
theorem kit_tuple (d : PyData) : kitB (tyD d) "tuple" = some (isTD d) := by cases d <;> (simp only [tyD, isTD]; decide +kernel)
theorem kit_list (d : PyData) : kitB (tyD d) "list" = some (isLD d) := by cases d <;> (simp only [tyD, isLD]; decide +kernel)
theorem kit_str (d : PyData) : kitB (tyD d) "str" = some (isSD d) := by cases d <;> (simp only [tyD, isSD]; decide +kernel)
/-! sizes -/
theorem log_le {x a : Nat} (h : x < 2 ^ a) : x.log2 ≤ a := by
  by_cases h0 : x = 0
  · subst h0; simp
  · exact Nat.le_of_lt ((Nat.log2_lt h0).mpr h)
theorem cmulW {a b : Nat} {i j : Int} (hi : i.natAbs < 2 ^ a) (hj : j.natAbs < 2 ^ b) (h : a + b < 1000000) : CMulW i j := by
  have h1 := log_le hi
  have h2 := log_le hj
  unfold CMulW
  omega
theorem den_abs (q : Rat) : (q.den : Int).natAbs = q.den := Int.natAbs_natCast _
theorem Szn {a : Nat} {q : Rat} (h : Sz a q) : q.num.natAbs < 2 ^ a := h.1
theorem Szd {a : Nat} {q : Rat} (h : Sz a q) : (q.den : Int).natAbs < 2 ^ a := by rw [den_abs]; exact h.2
/-- a size below which // is known -/
def Sm (d : Int) : Prop := d.natAbs < 2 ^ 9000
theorem Sm.log {d : Int} (h : Sm d) (h0 : d ≠ 0) : d.natAbs.log2 < 9000 := (Nat.log2_lt (by omega)).mpr h
theorem Sm.of {a : Nat} {d : Int} (h : d.natAbs < 2 ^ a) (l : a ≤ 9000) : Sm d := Nat.lt_of_lt_of_le h (Nat.pow_le_pow_right (by decide) l)
theorem gcd_sm {i j : Int} (hj : j ≠ 0) (h : Sm j) {s : Int} (hs : s = 1 ∨ s = -1) : Sm ((Int.gcd i j : Int) * s) := by
  have h1 : Int.gcd i j ≤ j.natAbs := Nat.le_of_dvd (by omega) (Int.gcd_dvd_natAbs_right i j)
  have h2 : ((Int.gcd i j : Int) * s).natAbs = Int.gcd i j := by
    rcases hs with rfl | rfl <;> simp
  unfold Sm at *
  omega
theorem gcd_ne {i j : Int} (hj : j ≠ 0) {s : Int} (hs : s = 1 ∨ s = -1) : (Int.gcd i j : Int) * s ≠ 0 := by
  have h1 : 0 < Int.gcd i j := Int.gcd_pos_of_ne_zero_right i hj
  rcases hs with rfl | rfl <;> omega
theorem mul_sm {a b : Nat} {i j : Int} (hi : i.natAbs < 2 ^ a) (hj : j.natAbs < 2 ^ b) (l : a + b ≤ 9000) : Sm (i * j) := Sm.of (a := a + b) (by rw [Int.natAbs_mul]; exact mul_lt hi hj) l
theorem den_ne (q : Rat) : (q.den : Int) ≠ 0 := by have := q.den_pos; omega
/-! a number as data -/
def IsNum (d : PyData) (q : Rat) : Prop := (q.den = 1 ∧ d = .int q.num) ∨ d = ratD q
theorem nm_of {d : PyData} {q : Rat} (h : IsNum d q) : ∀ v H, (Dv d).p v H → (Nm q).p v H := fun v H p => by
  rcases h with ⟨h1, h2⟩ | h2
  · subst h2; exact .inl ⟨h1, p⟩
  · subst h2; exact .inr p
theorem isNum_int (n : Int) : IsNum (.int n) (n : Rat) := .inl ⟨rfl, rfl⟩
theorem isNum_rat (q : Rat) : IsNum (ratD q) q := .inr rfl
def NumsOf (ds : List PyData) (qs : List Rat) : Prop := ds.length = qs.length ∧ ∀ i, i < qs.length → IsNum (ds.getD i .none) (qs.getD i 0)
end Tp

namespace Tp
open PySem PySem.Spec PyProof.Rows L2 Mq
/-! ### comprehensions -/
theorem wipe_get (σ : L2.St) (j : Nat) : ∀ vs : List Nat, (L2.wipe σ vs)[j]? = if j ∈ vs then (σ[j]?).map (fun _ => none) else σ[j]?
  | [] => by simp [L2.wipe]
  | v :: vs => by
    have ih := wipe_get σ j vs
    unfold L2.wipe
    by_cases e : v = j
    · subst e
      rw [List.getElem?_set]
      have hl : (L2.wipe σ vs).length = σ.length := L2.wipe_length σ vs
      by_cases h : v < σ.length
      · rw [if_pos rfl, if_pos (by omega), if_pos List.mem_cons_self, List.getElem?_eq_getElem h]; rfl
      · rw [if_pos rfl, if_neg (by omega), if_pos List.mem_cons_self, List.getElem?_eq_none (by omega)]; rfl
    · rw [List.getElem?_set_ne e, ih]
      have : j ∈ v :: vs ↔ j ∈ vs := by
        rw [List.mem_cons]; exact ⟨fun h => h.resolve_left (fun z => e z.symm), .inr⟩
      simp only [this]
theorem wipe_set {σ : L2.St} {i : Nat} {v : Option V} {vs : List Nat} (h : i ∈ vs) : L2.wipe (σ.set i v) vs = L2.wipe σ vs := by
  apply List.ext_getElem?
  intro j
  rw [wipe_get, wipe_get]
  by_cases e : j ∈ vs
  · rw [if_pos e, if_pos e, List.getElem?_set]
    by_cases e2 : i = j
    · subst e2
      rw [if_pos rfl]
      by_cases hl : i < σ.length
      · rw [if_pos hl, List.getElem?_eq_getElem hl]; rfl
      · rw [if_neg hl, List.getElem?_eq_none (by omega)]
    · rw [if_neg e2]
  · rw [if_neg e, if_neg e, List.getElem?_set_ne (fun z => e (by rw [← z]; exact h))]
theorem wipe_idem {σ : L2.St} {vs : List Nat} : L2.wipe (L2.wipe σ vs) vs = L2.wipe σ vs := by
  apply List.ext_getElem?
  intro j
  rw [wipe_get, wipe_get]
  by_cases e : j ∈ vs
  · rw [if_pos e, if_pos e]
    cases σ[j]? <;> rfl
  · rw [if_neg e, if_neg e]
def RunTs (X : Cx) (ifs : List Expr) (σ : L2.St) (H : Hp) (Q : Bool → Hp → Prop) : Prop :=
  ∀ (pins : List (Addr × Obj)) (s : Shared), Inv X pins σ H s →
    wpAny (model X.prog X.w) X.A (forIn ifs true fun c r => if r = true then do let ok ← isTrue c X.env (eval c X.env); pure (ForInStep.yield ok) else pure (ForInStep.yield r)) (TP X pins σ Q) X.xe s
def HTs (X : Cx) (F : Fm) (C : Ctx) (O : Own) (ifs : List Expr) (b : Bool) (O' : Own) : Prop :=
  ∀ σ G H Q, Sta F C O σ G H → (∀ G' H', Same G G' → Sta F C O' σ G' H' → Q b H') → RunTs X ifs σ H Q
def HGw (X : Cx) (F : Fm) (C : Ctx) (tg : Expr) (R : VR) (C' : Ctx) (ws : List Nat) : Prop :=
  ∀ O σ G H v Q, Sta F C O σ G H → R.p v G → (∀ σ', Sta F C' O σ' G H → L2.wipe σ' ws = L2.wipe σ ws → Q σ' H) → RunG X tg v σ H Q
def HGsw (X : Cx) (F : Fm) (C : Ctx) (ts : List Expr) (Rs : List VR) (C' : Ctx) (ws : List Nat) : Prop :=
  ∀ O σ G H vs Q, Sta F C O σ G H → FaR G Rs vs → (∀ σ', Sta F C' O σ' G H → L2.wipe σ' ws = L2.wipe σ ws → Q σ' H) → RunGs X ts vs σ H Q
/-- the part of an own list kept at the end -/
abbrev Oe (O : Own) (a : Addr) (ds : List PyData) : Own := O ++ [(a, LsO ds)]
abbrev Blk (X : Cx) (s : Shared) (H : Hp) (scope : Scope) (C0 : Addr) (cl : List (Str × Addr)) (fp : List Addr) : Cx := X.blk s H scope (compEnvC scope cl C0 X.env) fp
section
variable {X : Cx} {W : WX} {F : Fm} {C C1 C' : Ctx} {O O1 O2 O3 O' : Own} {e e2 e3 : Expr} {es : List Expr} {R R' S : VR} {Rs as : List VR} {pos p : Pos} {st : Stmt} {rest body els : List Stmt} {o : Out} {b c : Bool} {dvs : List V} {x : Str} {ps : List Str} {k : Nat} {ds : List PyData}
theorem hts_nil : HTs X F C O [] true O := fun σ G H Q E k pins s I => pts_nil.run pins s σ H Q I (k G H (Same.refl G) E)
theorem hts_one (h : HT X F C O e b O1) : HTs X F C O [e] b O1 := fun σ G H Q E k pins s I => (pts_one pt_run).run pins s σ H Q I (h σ G H Q E k)
theorem hgw_name {ws : List Nat} (i : Nat) {x : Str} (hN : X.N.Nodup) (hw : i ∈ ws := by decide) (hi : X.N[i]? = some x := by rfl) (hx : Loc X.env.scope x := by first | exact Or.inl rfl | exact Or.inr rfl) (hf : X.fn x = true ∨ X.env.scope.names.lookup x = some .local := by first | exact .inl rfl | exact .inr rfl) :
    HGw X F C (.Name x pos) R (C.set i (some R)) ws := fun O σ G H v Q E p k => PG.go (pg_name hN hi hx hf) (k _ (E.set p) (wipe_set hw))
theorem hgsw_nil {ws : List Nat} : HGsw X F C [] [] C ws := fun O σ G H vs Q E p k => by
  cases p
  exact PGs.go pgs_nil ⟨rfl, k σ E rfl⟩
theorem hgsw_cons {ws : List Nat} (h1 : HGw X F C e R C1 ws) (h2 : HGsw X F C1 es Rs C' ws) (hs : (assignEach (e :: es) X.env).map (·.2) = assign e X.env :: (assignEach es X.env).map (·.2) := by rfl) : HGsw X F C (e :: es) (R :: Rs) C' ws := fun O σ G H vs Q E p k => by
  cases p with
  | cons p t => exact PGs.go (pgs_cons pg_run pgs_run hs) ⟨_, _, rfl, h1 O σ G H _ _ E p fun σ1 E1 w1 => h2 O σ1 G H _ _ E1 t fun σ2 E2 w2 => k σ2 E2 (w2.trans w1)⟩
theorem hgw_tup {ws : List Nat} {ds : List PyData} {k1 : Nat} (hc : X.calm = true) (h : HGsw X F C es (ds.map Dv) C' ws) (hn : (assignEach es X.env).length = ds.length := by rfl) (hst : (assignEach es X.env).findIdx? (·.1) = none := by rfl) : HGw X F C (.Tuple es k1 pos) (Tu ds) C' ws := fun O σ G H v Q E p k => by
  obtain ⟨a, xs, e, ha, r⟩ := isT p
  subst e
  exact PG.go (pg_tup hc pgs_run hn hst) ⟨a, xs, rfl, SqT.of (E.fr.gh _ _ ha), r.length, h O σ G H _ _ E (FaR.of r) k⟩
/-- a new list may be read from now on -/
theorem he_hl (h : HL X F C O e ds O') : HE X F C O e (Ls ds) O' := fun σ G H Q E k => h σ G H Q E fun a G' H' s' hn E' => by
  obtain ⟨o, h1, ⟨xs, e, r⟩, hG, f⟩ := E'.fr.freeze hn
  subst e
  have s2 : Same G' (upd G' a (.lst xs)) := fun b u q => by rw [upd_ne (ne_of_none q hG)]; exact q
  exact k (.ref a) _ H' (s'.trans s2) (E'.up f s2) (.lst upd_same (IsL.up s2 ds _ r))
/-- the list so far -/
def accL (b : Nat → Bool) (f : Nat → PyData) (i : Nat) : List PyData := ((List.range i).filter b).map f
theorem accL_len (b : Nat → Bool) (f : Nat → PyData) (i : Nat) : (accL b f i).length ≤ i := by
  unfold accL
  rw [List.length_map]
  exact Nat.le_trans (List.length_filter_le _ _) (by rw [List.length_range]; exact Nat.le_refl _)
theorem accL_succ (b : Nat → Bool) (f : Nat → PyData) (i : Nat) : accL b f (i + 1) = if b i = true then accL b f i ++ [f i] else accL b f i := by
  unfold accL
  rw [List.range_succ, List.filter_append, List.map_append]
  cases h : b i <;> simp [h]
theorem accL_all (b : Nat → Bool) (f : Nat → PyData) (i : Nat) (h : ∀ j, j < i → b j = true) : accL b f i = (List.range i).map f := by
  unfold accL
  rw [List.filter_eq_self.mpr fun j hj => h j (List.mem_range.mp hj)]
/-- what the block of a comprehension does, turn by turn -/
structure BodyC (X : Cx) (F : Fm) (C : Ctx) (tg : Expr) (ifs : List Expr) (elt : Expr) (scope : Scope) (ws : List Nat) (n : Nat) (Y : Nat → VR) (b : Nat → Bool) (f : Nat → PyData) (Ct : Nat → Ctx) (Oi : Nat → Own) : Prop where
  g : ∀ i, i < n → ∀ s H C0 cl fp, HGw (Blk X s H scope C0 cl fp) F (wipeC C ws) tg (Y i) (Ct i) ws
  t : ∀ i, i < n → ∀ s H C0 cl fp a ds, HTs (Blk X s H scope C0 cl fp) F (Ct i) (Oe (Oi i) a ds) ifs (b i) (Oe (Oi i) a ds)
  e : ∀ i, i < n → b i = true → ∀ s H C0 cl fp a ds, HE (Blk X s H scope C0 cl fp) F (Ct i) (Oe (Oi i) a ds) elt (Dv (f i)) (Oe (Oi (i + 1)) a ds)
  z : ∀ i, i < n → b i = false → Oi i = Oi (i + 1)
def gAll (X : Cx) (scope : Scope) (tg : Expr) : TG := fun v σ H Q => ∀ s H0 C0 cl fp, RunG (Blk X s H0 scope C0 cl fp) tg v σ H Q
def tAll (X : Cx) (scope : Scope) (ifs : List Expr) : TT := fun σ H Q => ∀ s H0 C0 cl fp, RunTs (Blk X s H0 scope C0 cl fp) ifs σ H Q
def eAll (X : Cx) (scope : Scope) (elt : Expr) : TE := fun σ H Q => ∀ s H0 C0 cl fp, RunE (Blk X s H0 scope C0 cl fp) elt σ H Q
theorem pg_all {scope : Scope} {tg : Expr} (s : Shared) (H : Hp) (C : Addr) (cl : List (Str × Addr)) (fp : List Addr) : PG (X.blk s H scope (compEnvC scope cl C X.env) fp) tg (gAll X scope tg) := ⟨fun pins sh σ H' v u Q I r h => h s H C cl fp pins sh u I r⟩
theorem pts_all {scope : Scope} {ifs : List Expr} (s : Shared) (H : Hp) (C : Addr) (cl : List (Str × Addr)) (fp : List Addr) : PTs (X.blk s H scope (compEnvC scope cl C X.env) fp) ifs (tAll X scope ifs) := ⟨fun pins sh σ H' Q I h => h s H C cl fp pins sh I⟩
theorem pe_all {scope : Scope} {elt : Expr} (s : Shared) (H : Hp) (C : Addr) (cl : List (Str × Addr)) (fp : List Addr) : PE (X.blk s H scope (compEnvC scope cl C X.env) fp) elt (eAll X scope elt) := ⟨fun pins sh σ H' Q I h => h s H C cl fp pins sh I⟩
theorem lc_t {n : Nat} {Y : Nat → VR} {bb : Nat → Bool} {f : Nat → PyData} {Ct : Nat → Ctx} {Oi : Nat → Own} {ws : List Nat} {tg iter elt : Expr} {ifs : List Expr} {scope : Scope} (hi : HI X F C O tg iter n Y (Oi 0)) (hb : BodyC X F C tg ifs elt scope ws n Y bb f Ct Oi) (hn : n ≤ sizeLine)
    {σ : L2.St} {G H : Hp} {Q : VK} (E : Sta F C O σ G H) (k : ∀ a G' H', Same G G' → F.H0 a = none → Sta F C ((a, LsO (accL bb f n)) :: Oi n) σ G' H' → Q (.ref a) H') :
    tLc (RunI X tg iter) (gAll X scope tg) (tAll X scope ifs) (eAll X scope elt) ws σ H Q := by
  refine hi σ G H _ E fun J G1 H1 s1 E1 w D hD => ?_
  refine ⟨fun i m H => i ≤ n ∧ m = n - i ∧ ∃ G', Same G1 G' ∧ Sta F C (Oe (Oi i) D (accL bb f i)) σ G' H, ⟨n, Nat.zero_le _, rfl, G1, Same.refl _, ?_⟩, ?_⟩
  · have f1 := E1.fr.mine (o := .lst []) (R := LsO []) hD ⟨[], rfl, .nil⟩
    exact E1.up (f1.perm (by exact (List.perm_append_singleton _ _).symm)) (Same.refl _)
  rintro i m H2 ⟨hi2, rfl, G2, s2, E2⟩
  by_cases hlt : i < n
  · refine .inr ⟨w.go i _ G2 H2 hlt E2.fr s2, fun H' => ∃ G', Same G1 G' ∧ Sta F C (Oe (Oi (i + 1)) D (accL bb f (i + 1))) σ G' H', fun H' ⟨G', s', E'⟩ => ⟨n - (i + 1), by omega, hlt, rfl, G', s', E'⟩, fun x H3 y => ?_⟩
    obtain ⟨G3, s3, f3, p3⟩ := w.yl i x _ G2 H2 H3 hlt E2.fr s2 y
    have E3 := E2.up f3 s3
    intro s H0 C0 cl fp
    refine hb.g i hlt s H0 C0 cl fp _ _ G3 H3 x _ (E3.wipe ws) p3 fun σ4 E4 w4 => ⟨by rw [w4, wipe_idem], ?_⟩
    intro s H0 C0 cl fp
    refine hb.t i hlt s H0 C0 cl fp D _ σ4 G3 H3 _ E4 fun G5 H5 s5 E5 => ?_
    cases hbi : bb i with
    | false =>
      simp only [Bool.false_eq_true, if_false]
      refine ⟨G5, (s2.trans s3).trans s5, ?_⟩
      rw [accL_succ, hbi, ← hb.z i hlt hbi]
      exact E3.up E5.fr s5
    | true =>
      simp only [if_true]
      intro s H0 C0 cl fp
      refine hb.e i hlt hbi s H0 C0 cl fp D _ σ4 G5 H5 _ E5 fun v G6 H6 s6 E6 p6 => ?_
      have f6 := E6.fr.perm (List.perm_append_singleton _ _)
      obtain ⟨⟨o, ho, xs, eo, r⟩, _⟩ := f6.own _ List.mem_cons_self
      subst eo
      refine ⟨xs, ho, by rw [r.length]; have := accL_len bb f i; omega, G6, ((s2.trans s3).trans s5).trans s6, ?_⟩
      have f7 := f6.put (R' := LsO (accL bb f i ++ [f i])) (o := .lst (xs ++ [v])) ⟨_, rfl, r.snoc p6⟩
      rw [accL_succ, hbi, if_pos rfl]
      exact E3.up (f7.perm (List.perm_append_singleton _ _).symm) (s5.trans s6)
  · have ei : i = n := by omega
    subst ei
    refine .inl ⟨w.st _ G2 H2 E2.fr s2, ?_⟩
    have f6 := E2.fr.perm (List.perm_append_singleton _ _)
    obtain ⟨_, _, hP⟩ := f6.own _ List.mem_cons_self
    exact k D G2 H2 (s1.trans s2) (E1.fr.there D hD) (E2.up f6 (Same.refl _))
theorem hl_lc {n : Nat} {Y : Nat → VR} {bb : Nat → Bool} {f : Nat → PyData} {Ct : Nat → Ctx} {Oi : Nat → Own} {own : List (Str × Nat)} {tg iter elt : Expr} {ifs : List Expr} {scope : Scope} (hc : X.calm = true) (hN : X.N.Nodup) (hi : HI X F C O tg iter n Y (Oi 0)) (ok : BlkOk X.N X.env.scope scope own)
    (hb : BodyC X F C tg ifs elt scope (own.map (·.2)) n Y bb f Ct Oi) (hn : n ≤ sizeLine) (hd : accL bb f n = ds) (hs : ∀ x, foldedSetIterable iter X.env x = pure x := by intro _; rfl) :
    HL X F C O (.ListComp elt [⟨tg, iter, ifs, 0⟩] scope pos) ds (Oi n) := hd ▸ fun σ G H Q E k =>
  PE.go (pe_lc hc hN pi_run ok pg_all pts_all pe_all hs) (lc_t hi hb hn E k)
/-- name = [..] on one line, the new list our own -/
theorem hb_setLc (i : Nat) {y : Str} {py spos : Pos} {n : Nat} {Y : Nat → VR} {bb : Nat → Bool} {f : Nat → PyData} {Ct : Nat → Ctx} {Oi : Nat → Own} {own : List (Str × Nat)} {tg iter elt : Expr} {ifs : List Expr} {scope : Scope} (hc : X.calm = true) (hN : X.N.Nodup) (hi : HI X F C O tg iter n Y (Oi 0)) (ok : BlkOk X.N X.env.scope scope own)
    (hb : BodyC X F C tg ifs elt scope (own.map (·.2)) n Y bb f Ct Oi) (hn : n ≤ sizeLine) (hd : accL bb f n = ds) (h2 : ∀ a, F.H0 a = none → HB X W F (C.set i (some (Sv (.ref a)))) ((a, LsO ds) :: Oi n) rest o) (hy : X.N[i]? = some y := by rfl) (hyl : X.env.scope.names.lookup y = some .local := by rfl)
    (hsw : swapsWith (.ListComp elt [⟨tg, iter, ifs, 0⟩] scope pos) (some (.Name y py)) spos.line X.env = pure true := by exact sw_true rfl rfl rfl rfl) (hs : ∀ x, foldedSetIterable iter X.env x = pure x := by intro _; rfl) :
    HB X W F C O (.Assign [.Name y py] (.ListComp elt [⟨tg, iter, ifs, 0⟩] scope pos) spos :: rest) o := fun σ G H D E k => by
  subst hd
  exact
  PSs.go (pss_cons (ps_setLc hc hN hy hyl hsw pi_run ok pg_all pts_all pe_all hs) pb_run)
    (lc_t (Q := fun x H1 => gName i x σ H1 (RunB X rest D)) hi hb hn E fun a G1 H1 s1 hn E1 => h2 a hn _ G1 H1 D (E1.set (R := Sv (.ref a)) rfl) (k.up s1))
/-- .. or known from now on -/
theorem hs_setLc (i : Nat) {y : Str} {py spos : Pos} {n : Nat} {Y : Nat → VR} {bb : Nat → Bool} {f : Nat → PyData} {Ct : Nat → Ctx} {Oi : Nat → Own} {own : List (Str × Nat)} {tg iter elt : Expr} {ifs : List Expr} {scope : Scope} (hc : X.calm = true) (hN : X.N.Nodup) (hi : HI X F C O tg iter n Y (Oi 0)) (ok : BlkOk X.N X.env.scope scope own)
    (hb : BodyC X F C tg ifs elt scope (own.map (·.2)) n Y bb f Ct Oi) (hn : n ≤ sizeLine) (hd : accL bb f n = ds) (hy : X.N[i]? = some y := by rfl) (hyl : X.env.scope.names.lookup y = some .local := by rfl)
    (hsw : swapsWith (.ListComp elt [⟨tg, iter, ifs, 0⟩] scope pos) (some (.Name y py)) spos.line X.env = pure true := by exact sw_true rfl rfl rfl rfl) (hs : ∀ x, foldedSetIterable iter X.env x = pure x := by intro _; rfl) :
    HS X W F C O (.Assign [.Name y py] (.ListComp elt [⟨tg, iter, ifs, 0⟩] scope pos) spos) (.nx (C.set i (some (Ls ds))) (Oi n)) := hd ▸ fun σ G H D E k =>
  PS.go (ps_setLc hc hN hy hyl hsw pi_run ok pg_all pts_all pe_all hs)
    (lc_t (Q := fun x H1 => gName i x σ H1 D.nx) hi hb hn E fun a G1 H1 s1 hn E1 => by
      obtain ⟨o, h1, ⟨xs, e, r⟩, hG, f'⟩ := E1.fr.freeze hn
      subst e
      have s2 : Same G1 (upd G1 a (.lst xs)) := fun b u q => by rw [upd_ne (ne_of_none q hG)]; exact q
      exact k _ _ _ (s1.trans s2) ((E1.up f' s2).set (R := Ls _) (.lst upd_same (IsL.up s2 _ _ r))))
theorem HI.cast {tg iter : Expr} {n m : Nat} {Y Z : Nat → VR} (h : HI X F C O tg iter n Y O1) (e : n = m) (z : ∀ i, i < m → Y i = Z i) : HI X F C O tg iter m Z O1 := fun σ G H Q E k => h σ G H Q E fun J G' H' s' E' w => k J G' H' s' E' (by
  subst e
  exact ⟨w.go, fun i x O G H H' hi f s y => by rw [← z i hi]; exact w.yl i x O G H H' hi f s y, w.st⟩)
theorem getD_map {α : Type} {f : α → PyData} {xs : List α} {d : PyData} {z : α} {i : Nat} (h : i < xs.length) : (xs.map f).getD i d = f (xs.getD i z) := by
  rw [List.getD_eq_getElem?_getD, List.getD_eq_getElem?_getD, List.getElem?_map, List.getElem?_eq_getElem h]; rfl
/-- over a list that is a map -/
theorem hi_listM {α : Type} {f : α → PyData} {xs : List α} (z : α) {tg : Expr} (h : HE X F C O e (Ls (xs.map f)) O1) : HI X F C O tg e xs.length (fun i => Dv (f (xs.getD i z))) O1 :=
  (hi_list h).cast (List.length_map _) fun i hi => by rw [getD_map hi]
theorem hi_tupM {α : Type} {f : α → PyData} {xs : List α} (z : α) {tg : Expr} (h : HE X F C O e (Tu (xs.map f)) O1) : HI X F C O tg e xs.length (fun i => Dv (f (xs.getD i z))) O1 :=
  (hi_tup h).cast (List.length_map _) fun i hi => by rw [getD_map hi]
theorem range_getD {α β : Type} (f : α → β) (z : α) (xs : List α) : (List.range xs.length).map (fun i => f (xs.getD i z)) = xs.map f := by
  apply List.ext_getElem?
  intro i
  rw [List.getElem?_map, List.getElem?_map]
  by_cases h : i < xs.length
  · rw [List.getElem?_eq_getElem (by rw [List.length_range]; exact h), List.getElem_range, List.getElem?_eq_getElem h]
    show some (f (xs.getD i z)) = some (f xs[i])
    rw [List.getD_eq_getElem?_getD, List.getElem?_eq_getElem h]; rfl
  · rw [List.getElem?_eq_none (by rw [List.length_range]; omega), List.getElem?_eq_none (by omega)]; rfl
theorem accL_map {α : Type} (f : α → PyData) (z : α) (xs : List α) : accL (fun _ => true) (fun i => f (xs.getD i z)) xs.length = xs.map f := by
  rw [accL_all _ _ _ fun _ _ => rfl, range_getD]
theorem hb_nilS (s : Sub C C') : HB X W F C O [] (.nx C' O) := fun σ G H D E k => PSs.go pss_nil (k σ G H (Same.refl G) (E.sub s))
end
end Tp

namespace Tp
open PySem PySem.Spec PyProof.Rows L2 Mq
/-! ### sets of ints as tracked things -/
abbrev SiO (w : World) (a : Addr) (S : Int → Bool) (n : Nat) : HO := L2.SetO w a S n
section
variable {X : Cx} {w : World} {P : Program} {H : Hp} {h : Heap} {a : Addr} {S : Int → Bool} {n : Nat}
theorem siO_ok (R : SetR w h a S n) : ObjOk P w H h a (SiO w a S n) :=
  ⟨R, let ⟨o, _, _, _, ho, _⟩ := R; ⟨o, ho⟩, fun _ _ p k => SetR.at p k⟩
theorem siO_get {pins : List (Addr × Obj)} {σ : L2.St} {s : Shared} (I : Inv X pins σ H s) (ha : H a = some (SiO X.w a S n)) : SetR X.w s.heap a S n := (I.hok a _ ha).1
theorem siO_add {pins : List (Addr × Obj)} {σ : L2.St} {s : Shared} {E : Value → Shared → Prop} {y : Int} {t : Tok} {Q : Value → Shared → Prop} (I : Inv X pins σ H s) (hD : H a = some (SiO X.w a S n)) (room : n + 1 < scanBound)
    (k : ∀ s', Inv X pins σ (upd H a (SiO X.w a (fun j => S j || decide (j = y)) (if S y = true then n else n + 1))) s' → Q .none s') : wpAny (model X.prog X.w) X.A (call (.builtin "set.add") [.ref a, .int y t]) Q E s := by
  refine setR_add (siO_get I hD) room fun h' sb r => ?_
  have ex : ∃ u, h'.get? a = some u := let ⟨o, _, _, _, ho, _⟩ := r; ⟨o, ho⟩
  exact k _ (I.write (e := a) (t' := s.toks + 1) (by rw [hD]; trivial) (.inl rfl) (fun b u hb hu => (sb.2 b hb).trans hu) ex (siO_ok r))
end
/-! ### their comprehension -/
def tSi (w : World) (wi : TI) (g : TG) (tt : TT) (te : TE) (vs : List Nat) : TE := fun σ H Q => wi σ H fun J H1 => ∀ D, H1 D = none → ∃ V : Nat → Nat → Hp → Prop, (∃ m, V 0 m (upd H1 D (SiO w D (fun _ => false) 0))) ∧ ∀ i m H, V i m H →
  (J.stop i H ∧ Q (.ref D) H) ∨ (J.go i H ∧ ∃ N : Hp → Prop, (∀ H', N H' → ∃ m', m' < m ∧ V (i + 1) m' H') ∧ ∀ x H', J.yld i H x H' → g x (L2.wipe σ vs) H' fun σ2 H2 => L2.wipe σ2 vs = L2.wipe σ vs ∧ tt σ2 H2 fun b H3 =>
    if b = true then te σ2 H3 fun y H4 => ∃ (c : Int) (S : Int → Bool) (n : Nat), y = .int c ∧ H4 D = some (SiO w D S n) ∧ n + 1 < scanBound ∧ N (upd H4 D (SiO w D (fun j => S j || decide (j = c)) (if S c = true then n else n + 1))) else N H3)
section
variable {X : Cx}
abbrev emptySet (w : World) : Obj := { cls := .type "set", dict := none, data := .set #[] 0 (.fresh 0 0 (!w.params.followText "set-order")) }
theorem pe_si {elt tg iter : Expr} {ifs : List Expr} {scope : Scope} {own : List (PySem.Str × Nat)} {pos : Pos} {wi : TI} {g : TG} {tt : TT} {te : TE} (hc : X.calm = true) (hN : X.N.Nodup) (hi : PI X tg iter wi) (ok : BlkOk X.N X.env.scope scope own)
    (hg : ∀ (s : Shared) (H : Hp) (C : Addr) (cl : List (PySem.Str × Addr)) (fp : List Addr), PG (X.blk s H scope (compEnvC scope cl C X.env) fp) tg g) (ht : ∀ (s : Shared) (H : Hp) (C : Addr) (cl : List (PySem.Str × Addr)) (fp : List Addr), PTs (X.blk s H scope (compEnvC scope cl C X.env) fp) ifs tt)
    (he : ∀ (s : Shared) (H : Hp) (C : Addr) (cl : List (PySem.Str × Addr)) (fp : List Addr), PE (X.blk s H scope (compEnvC scope cl C X.env) fp) elt te) (hs : ∀ x, foldedSetIterable iter X.env x = pure x := by intro _; rfl) :
    PE X (.SetComp elt [⟨tg, iter, ifs, 0⟩] scope pos) (tSi X.w wi g tt te (own.map (·.2))) := by
  refine ⟨fun pins s σ H Q I h => ?_⟩
  have clo : ∀ y ∈ scope.names, y.2 = .free → ∃ c, X.env.cells.lookup y.1 = some c := fun y hy e => (ok.free y hy e).elim (fun k => I.ok.has _ (.inl k)) fun k => I.ok.has _ (.inr k)
  rw [PpSet.eval_SetComp]
  refine wpAny_comprehension_free (use := none) rfl hs (closure_ok clo) ok.kind (fun y hy e => (ok.uniq y hy).trans (by rw [e])) (thn (hi.run pins s σ H _ I h) fun xv s1 hx => thn hx fun itv s2 h2 => ?_)
  obtain ⟨it, fp, tn, J, H2, rfl, I2, T, st2, f2, q⟩ := h2
  refine PpSet.newSet_ok (newEnv_comp ?_)
  have hDn : H2 s2.heap.objs.size = none := I2.hok.fresh (Nat.le_refl _)
  obtain ⟨V, ⟨m0, v0⟩, turn⟩ := q _ hDn
  generalize eD : s2.heap.objs.size = D at hDn v0 turn ⊢
  obtain ⟨s3, hs3⟩ : ∃ s3 : Shared, s3 = { s2 with heap := s2.heap.push (emptySet X.w) } := ⟨_, rfl⟩
  have hh3 : s3.heap = s2.heap.push (emptySet X.w) := by rw [hs3]
  have up3 : ∀ b o, s2.heap.get? b = some o → s3.heap.get? b = some o := fun b o e => by rw [hh3]; exact Heap.get?_push_of_some _ e
  have I3 : Inv X pins σ (upd H2 D (SiO X.w D (fun _ => false) 0)) s3 := by
    rw [hs3]
    refine I2.laid (t' := s2.toks) (fun b o e => Heap.get?_push_of_some _ e) (Nat.le_of_eq eD) ?_
    rw [← eD]
    exact siO_ok (setR_fresh X.w)
  have ffp : ∀ b ∈ fp, b < s2.heap.objs.size := fun b hb => let ⟨_, e, _⟩ := T.obj _ _ st2 b hb; Heap.lt_size e
  have f3 : ∀ b ∈ fp, FpOk X pins (upd H2 D (SiO X.w D (fun _ => false) 0)) b ∧ b < s3.heap.objs.size := fun b hb => by
    have lt := ffp b hb
    refine ⟨⟨?_, (f2 b hb).2⟩, ?_⟩
    · rw [upd_ne (eD ▸ Nat.ne_of_lt lt)]; exact (f2 b hb).1
    · rw [hh3, Heap.size_push]; exact Nat.lt_succ_of_lt lt
  have st3 : tn 0 s3.heap := T.keep _ _ _ st2 fun b _ => up3 b
  have I4 := block_start I3 ok hN f3
  obtain ⟨H3, eH3⟩ : ∃ H3, H3 = upd H2 D (SiO X.w D (fun _ => false) 0) := ⟨_, rfl⟩
  rw [← eH3] at I3 I4 v0 f3
  have pg := hg s3 H3 s3.heap.objs.size (cellsFrom (s3.heap.objs.size + 1) scope.names (cloFrom X.env.cells scope.names [])) fp
  have pt := ht s3 H3 s3.heap.objs.size (cellsFrom (s3.heap.objs.size + 1) scope.names (cloFrom X.env.cells scope.names [])) fp
  have pe := he s3 H3 s3.heap.objs.size (cellsFrom (s3.heap.objs.size + 1) scope.names (cloFrom X.env.cells scope.names [])) fp
  have goal : codeAny (model X.prog X.w) X.A (.compStart (.SetComp elt [⟨tg, iter, ifs, 0⟩] scope pos) 0 (.ref it) (.ref D) (compEnvC scope (cellsFrom (s3.heap.objs.size + 1) scope.names (cloFrom X.env.cells scope.names [])) s3.heap.objs.size X.env)) (compPost (model X.prog X.w) X.A X.xe none (EP X pins σ Q) (.ref D) s3.heap.objs.size)
      { s3 with heap := pushCells (s3.heap.push { cls := .type "dict", data := .dict #[] }) scope.names } := by
    generalize hce : compEnvC scope (cellsFrom (s3.heap.objs.size + 1) scope.names (cloFrom X.env.cells scope.names [])) s3.heap.objs.size X.env = ce at I4 pg pt pe ⊢
    have cL : ce.locals = s3.heap.objs.size := by rw [← hce]; rfl
    obtain ⟨s4, hs4⟩ : ∃ s4 : Shared, s4 = { s3 with heap := pushCells (s3.heap.push { cls := .type "dict", data := .dict #[] }) scope.names } := ⟨_, rfl⟩
    rw [← hs4] at I4 ⊢
    have st4 : tn 0 s4.heap := T.keep _ _ _ st3 fun b _ o e => by rw [hs4]; exact pushCells_keeps _ _ _ _ (Heap.get?_push_of_some _ e)
    have stat : ∀ {σ' : L2.St} {H' : Hp} {s' : Shared}, Inv (X.blk s3 H3 scope ce fp) [] σ' H' s' → (∀ b ∈ fp, H' b = none) → ∀ b ∈ fp, FpOk (X.blk s3 H3 scope ce fp) [] H' b := fun I' z b hb =>
      ⟨z b hb, (I'.ok.exf b hb).1, I'.ok.exfs b hb, .inl hb, fun x c e => (I'.ok.exf b hb).2 x c e, fun p hp => by cases (show p ∈ ([] : List (Addr × Obj)) from hp)⟩
    let Z : Nat → Shared → Prop := fun n s' => ∃ i H', Inv (X.blk s3 H3 scope ce fp) [] (L2.wipe σ (own.map (·.2))) H' s' ∧ tn i s'.heap ∧ (∀ b ∈ fp, H' b = none) ∧ V i n H'
    have lp : codeAny (model X.prog X.w) X.A (.compLoop (.SetComp elt [⟨tg, iter, ifs, 0⟩] scope pos) 0 (.ref it) (.ref D) ce) (compPost (model X.prog X.w) X.A X.xe none (EP X pins σ Q) (.ref D) s3.heap.objs.size) s4 := by
      refine PpSet.compLoopS_any Z ?_ m0 ⟨0, H3, I4, st4, fun b hb => (f3 b hb).1.1, v0⟩
      rintro n s5 ⟨i, H5, I5, st5, n5, v5⟩
      rcases turn i n H5 v5 with ⟨stop, fin⟩ | ⟨go, N, hN', step⟩
      · refine thnF (T.done (X.blk s3 H3 scope ce fp) rfl rfl rfl hc i [] s5 _ H5 (fun _ _ => False) I5 (stat I5 n5) st5 stop) fun r s6 hr => ?_
        obtain ⟨rfl, I6⟩ := hr
        have I7 : Inv X pins σ H5 s6 := I3.call' (ch := fp) I6.os I6.base I6.hok I6.bare fun b hb => let ⟨_, z1, _, z2, z3, z4⟩ := (f3 b hb).1; ⟨z2, z1, z3, z4⟩
        have nC : H5 s3.heap.objs.size = none := cL ▸ (show H5 ce.locals = none from I6.free)
        obtain ⟨m, hm, _⟩ := I6.loc
        have hm : s6.heap.Ns s3.heap.objs.size m := cL ▸ (show s6.heap.Ns ce.locals m from hm)
        obtain ⟨p0, p1, p2, p3, p4, p5⟩ := I3.fpOk (Nat.le_refl _) nC
        exact ⟨m, hm, fun h'' sb => ⟨.ref D, H5, I7.turned (t' := s6.toks) (fun b o hb e => (sb.2 b hb).trans e) nC p1 p3 p4 p5, rfl, fin⟩⟩
      · refine thnF (T.item (X.blk s3 H3 scope ce fp) rfl rfl rfl hc i [] s5 _ H5 (fun _ _ => False) I5 (stat I5 n5) st5 go) fun r s6 hr => ?_
        obtain ⟨u, rfl, h6⟩ := hr
        refine thnF h6 fun _ s7 ⟨x, H7, I7, r7, y7, st7, n7⟩ => ?_
        have J7 := I7.pinned (stat I7 n7) (T.obj _ _ st7)
        refine thnF (pg.run _ s7 _ H7 x u _ J7 r7 (step x H7 y7)) fun _ s8 ⟨σ8, H8, I8, w8, q8⟩ => thnF (pt.run _ s8 σ8 H8 _ I8 q8) fun b s9 ⟨H9, I9, q9⟩ => ?_
        have back : ∀ {s' : Shared} {H' : Hp}, Inv (X.blk s3 H3 scope ce fp) ([] ++ pinsAt fp s7.heap) σ8 H' s' → N H' → ∃ m, m < n ∧ Z m s' := fun {s' H'} I' nx => by
          obtain ⟨m', hm, v'⟩ := hN' H' nx
          have pin : ∀ b ∈ fp, ∀ o, s7.heap.get? b = some o → s'.heap.get? b = some o ∧ H' b = none := fun b hb o e =>
            have z := I'.pin (b, o) (List.mem_append_right _ (List.mem_append_right _ (mem_pinsAt hb e)))
            ⟨z.1, z.2.1⟩
          refine ⟨m', hm, i + 1, H', (I'.unpinned (pins := [])).weak (by rw [← w8, L2.wipe_length]) (fun j v e => (wipe_some (w8.symm ▸ e)).1), T.keep _ _ _ st7 fun b hb o e => (pin b hb o e).1, fun b hb => ?_, v'⟩
          exact let ⟨o, e, _⟩ := T.obj _ _ st7 b hb; (pin b hb o e).2
        cases b with
        | false => exact back I9 (by simpa using q9)
        | true =>
          rw [if_pos rfl] at q9
          refine thnF (pe.run _ s9 σ8 H9 _ I9 q9) fun z s10 ⟨yv, H10, I10, r10, c, S0, n0, ey, hD10, hz10, nx⟩ => ?_
          subst ey
          obtain ⟨t, rfl⟩ : ∃ t, z = Value.int c t := r10
          exact siO_add (X := X.blk s3 H3 scope ce fp) I10 hD10 hz10 fun s11 I11 => back I11 nx
    exact PpSet.codeAny_compStart_set lp (T.self X.A 0 _ _ _ st4 lp)
  rw [hs3] at goal
  exact goal
end
/-- what is known of a set of our own -/
def SiR (w : World) (a : Addr) (S : Int → Bool) (n : Nat) : HR := ⟨fun o _ => o = SiO w a S n, fun _ h => h⟩
/-- e gives a new set of ints, our own -/
def HSi (X : Cx) (F : Fm) (C : Ctx) (O : Own) (e : Expr) (S : Int → Bool) (n : Nat) (O' : Own) : Prop :=
  ∀ σ G H Q, Sta F C O σ G H → (∀ a G' H', Same G G' → F.H0 a = none → Sta F C ((a, SiR X.w a S n) :: O') σ G' H' → Q (.ref a) H') → RunE X e σ H Q
/-- the members put in one by one, and how many they are -/
def putS (S : Int → Bool) : List Int → Int → Bool
  | [], j => S j
  | c :: cs, j => putS (fun j => S j || decide (j = c)) cs j
def cntS (S : Int → Bool) (n : Nat) : List Int → Nat
  | [] => n
  | c :: cs => cntS (fun j => S j || decide (j = c)) (if S c = true then n else n + 1) cs
theorem putS_snoc (cs : List Int) (c : Int) : ∀ S : Int → Bool, putS S (cs ++ [c]) = fun j => putS S cs j || decide (j = c) := by
  induction cs with
  | nil => intro S; rfl
  | cons d cs ih => intro S; exact ih _
theorem cntS_snoc (cs : List Int) (c : Int) : ∀ (S : Int → Bool) (n : Nat), cntS S n (cs ++ [c]) = if putS S cs c = true then cntS S n cs else cntS S n cs + 1 := by
  induction cs with
  | nil => intro S n; rfl
  | cons d cs ih => intro S n; exact ih _ _
theorem cntS_le (cs : List Int) : ∀ (S : Int → Bool) (n : Nat), cntS S n cs ≤ n + cs.length := by
  induction cs with
  | nil => intro S n; exact Nat.le_refl _
  | cons d cs ih =>
    intro S n
    refine Nat.le_trans (ih _ _) ?_
    rw [List.length_cons]
    split <;> omega
theorem putS_mem (cs : List Int) : ∀ (S : Int → Bool) (j : Int), putS S cs j = true ↔ S j = true ∨ j ∈ cs := by
  induction cs with
  | nil => intro S j; simp [putS]
  | cons d cs ih =>
    intro S j
    show putS (fun j => S j || decide (j = d)) cs j = true ↔ _
    rw [ih]; simp only [Bool.or_eq_true, decide_eq_true_eq, List.mem_cons]
    constructor
    · rintro ((h | h) | h)
      · exact .inl h
      · exact .inr (.inl h)
      · exact .inr (.inr h)
    · rintro (h | h | h)
      · exact .inl (.inl h)
      · exact .inl (.inr h)
      · exact .inr h
section
variable {X : Cx} {W : WX} {F : Fm} {C C1 C' : Ctx} {O O1 O2 O3 O' : Own} {e e2 e3 : Expr} {es : List Expr} {R R' S : VR} {Rs as : List VR} {pos p : Pos} {st : Stmt} {rest body els : List Stmt} {o : Out} {b c : Bool} {dvs : List V} {x : Str} {ps : List Str} {k : Nat} {ds : List PyData}
abbrev Oj (O : Own) (w : World) (a : Addr) (S : Int → Bool) (n : Nat) : Own := O ++ [(a, SiR w a S n)]
/-- what the block of a set comprehension of ints does, turn by turn (nothing of our own is touched) -/
structure BodyS (X : Cx) (F : Fm) (C : Ctx) (O : Own) (tg elt : Expr) (scope : Scope) (ws : List Nat) (n : Nat) (Y : Nat → VR) (f : Nat → Int) (Ct : Nat → Ctx) : Prop where
  g : ∀ i, i < n → ∀ s H C0 cl fp, HGw (Blk X s H scope C0 cl fp) F (wipeC C ws) tg (Y i) (Ct i) ws
  e : ∀ i, i < n → ∀ s H C0 cl fp a S m, HE (Blk X s H scope C0 cl fp) F (Ct i) (Oj O X.w a S m) elt (In (f i)) (Oj O X.w a S m)
theorem hsi_sc {n : Nat} {Y : Nat → VR} {f : Nat → Int} {Ct : Nat → Ctx} {own : List (Str × Nat)} {tg iter elt : Expr} {scope : Scope} (hc : X.calm = true) (hN : X.N.Nodup) (hi : HI X F C O tg iter n Y O1) (ok : BlkOk X.N X.env.scope scope own)
    (hb : BodyS X F C O1 tg elt scope (own.map (·.2)) n Y f Ct) (hn : n < 64) (hs : ∀ x, foldedSetIterable iter X.env x = pure x := by intro _; rfl) :
    HSi X F C O (.SetComp elt [⟨tg, iter, [], 0⟩] scope pos) (putS (fun _ => false) ((List.range n).map f)) (cntS (fun _ => false) 0 ((List.range n).map f)) O1 := fun σ G H Q E k => by
  refine PE.go (pe_si hc hN pi_run ok pg_all pts_all pe_all hs) (hi σ G H _ E fun J G1 H1 s1 E1 w D hD => ?_)
  let cs : Nat → List Int := fun i => (List.range i).map f
  have css : ∀ i, cs (i + 1) = cs i ++ [f i] := fun i => by show (List.range (i + 1)).map f = _; rw [List.range_succ, List.map_append]; rfl
  refine ⟨fun i m H => i ≤ n ∧ m = n - i ∧ ∃ G', Same G1 G' ∧ Sta F C (Oj O1 X.w D (putS (fun _ => false) (cs i)) (cntS (fun _ => false) 0 (cs i))) σ G' H, ⟨n, Nat.zero_le _, rfl, G1, Same.refl _, ?_⟩, ?_⟩
  · have f1 := E1.fr.mine (o := SiO X.w D (fun _ => false) 0) (R := SiR X.w D (fun _ => false) 0) hD rfl
    exact E1.up (f1.perm (List.perm_append_singleton _ _).symm) (Same.refl _)
  rintro i m H2 ⟨hi2, rfl, G2, s2, E2⟩
  by_cases hlt : i < n
  · refine .inr ⟨w.go i _ G2 H2 hlt E2.fr s2, fun H' => ∃ G', Same G1 G' ∧ Sta F C (Oj O1 X.w D (putS (fun _ => false) (cs (i + 1))) (cntS (fun _ => false) 0 (cs (i + 1)))) σ G' H', fun H' ⟨G', s', E'⟩ => ⟨n - (i + 1), by omega, hlt, rfl, G', s', E'⟩, fun x H3 y => ?_⟩
    obtain ⟨G3, s3, f3, p3⟩ := w.yl i x _ G2 H2 H3 hlt E2.fr s2 y
    have E3 := E2.up f3 s3
    intro s H0 C0 cl fp
    refine hb.g i hlt s H0 C0 cl fp _ _ G3 H3 x _ (E3.wipe _) p3 fun σ4 E4 w4 => ⟨by rw [w4, wipe_idem], ?_⟩
    intro s H0 C0 cl fp pins sh I
    refine pts_nil.run pins sh σ4 H3 _ I ?_
    unfold tYes; dsimp only
    rw [if_pos rfl]
    intro s H0 C0 cl fp
    refine hb.e i hlt s H0 C0 cl fp D _ _ σ4 G3 H3 _ E4 fun v G6 H6 s6 E6 p6 => ?_
    have f6 := E6.fr.perm (List.perm_append_singleton _ _)
    obtain ⟨⟨o, ho, eo⟩, _⟩ := f6.own _ List.mem_cons_self
    have eo : o = SiO X.w D _ _ := eo
    subst eo
    refine ⟨f i, _, _, isI p6, ho, ?_, G6, (s2.trans s3).trans s6, ?_⟩
    · have := cntS_le (cs i) (fun _ => false) 0
      have hl : (cs i).length = i := by show ((List.range i).map f).length = i; rw [List.length_map, List.length_range]
      have hsc : (64 : Nat) < scanBound := by decide
      omega
    · rw [css, putS_snoc, cntS_snoc]
      exact E3.up ((f6.put (R' := SiR X.w D _ _) rfl).perm (List.perm_append_singleton _ _).symm) s6
  · have ei : i = n := by omega
    subst ei
    refine .inl ⟨w.st _ G2 H2 E2.fr s2, ?_⟩
    exact k D G2 H2 (s1.trans s2) (E1.fr.there D hD) (E2.up (E2.fr.perm (List.perm_append_singleton _ _)) (Same.refl _))
theorem sorted_uniq : ∀ {xs ys : List Int}, xs.Pairwise (· < ·) → ys.Pairwise (· < ·) → (∀ k, k ∈ xs ↔ k ∈ ys) → xs = ys
  | [], [], _, _, _ => rfl
  | [], y :: ys, _, _, h => by have := (h y).mpr List.mem_cons_self; cases this
  | x :: xs, [], _, _, h => by have := (h x).mp List.mem_cons_self; cases this
  | x :: xs, y :: ys, p, q, h => by
    obtain ⟨p1, p2⟩ := List.pairwise_cons.mp p
    obtain ⟨q1, q2⟩ := List.pairwise_cons.mp q
    have e : x = y := by
      rcases List.mem_cons.mp ((h x).mp List.mem_cons_self) with e | e
      · exact e
      · rcases List.mem_cons.mp ((h y).mpr List.mem_cons_self) with e2 | e2
        · exact e2.symm
        · have := q1 x e; have := p1 y e2; omega
    subst e
    rw [sorted_uniq p2 q2 fun k => ?_]
    constructor
    · intro hk
      rcases List.mem_cons.mp ((h k).mp (List.mem_cons_of_mem _ hk)) with z | z
      · have := p1 k hk; omega
      · exact z
    · intro hk
      rcases List.mem_cons.mp ((h k).mpr (List.mem_cons_of_mem _ hk)) with z | z
      · have := q1 k hk; omega
      · exact z
/-- sorted(a set of ints) -/
theorem hl_sortSi {S : Int → Bool} {n : Nat} {ns : List Int} (hm : X.mg "sorted" = none) (hc : X.calm = true) (h : HSi X F C O e S n O1) (h64 : n < 64) (hp : ns.Pairwise (· < ·)) (hi : ∀ k, k ∈ ns ↔ S k = true) (hg : Gl X "sorted" := by rfl) (hs : starEach [e] X.env = (false, eval e X.env) :: starEach [] X.env := by rfl) :
    HL X F C O (.Call (.Name "sorted" p) [e] [] pos) (ns.map PyData.int) O1 := fun σ G H Q E k =>
  PE.go (pe_callB (cr_sortedSet hc) hg hm (by decide +kernel) (pa_cons pe_run pa_nil hs) (by decide) (by decide) hs rfl) (h σ G H _ E fun a G1 H1 s1 hn E1 => by
    obtain ⟨⟨o, ho, eo⟩, _⟩ := E1.fr.own _ List.mem_cons_self
    have eo : o = SiO X.w a S n := eo
    subst eo
    refine ⟨a, S, n, rfl, ho, h64, fun ns' q pw mem len hq => ?_⟩
    have e : ns' = ns := sorted_uniq pw hp fun k => (mem k).trans (hi k).symm
    subst e
    exact k q G1 _ s1 (E1.fr.there q hq) (E1.up (E1.fr.drop.mine hq ⟨_, rfl, IsL.of_ints ns'⟩) (Same.refl _)))
end
end Tp

namespace Tp
open PySem PySem.Spec PyProof.Rows L2
/-! ### defs that ask that no display is under way (repr of a list) -/
structure FnG (P : Program) (w : World) (K : PySem.W.Frag) (mg : Str → Option Value) (base : Heap) (CX : CXT) (k : Nat) (f : Addr) (fd : FuncData) (ps : List Str) (sp : Sp) : Prop where
  len : ∀ vs H Q E, sp vs H Q E → vs.length = ps.length
  run : ∀ (A : Around) (outer : List Env) (s : Shared) (H : Hp) (args : Args) (us : List Value) (vs : List V) (Q : VK) (E : XK), Room k A → A.guards = some [] → Env0 P w K mg base A outer s H → BindsTo s fd args (ps.zip us) → Vals vs us → sp vs H Q E →
    codeAny (model P w) A (.call (.ref f) args) (CR CX outer P w H s Q E) s
section
variable {P : Program} {w : World} {K : PySem.W.Frag} {mg : Str → Option Value} {base : Heap} {CX : CXT} {k : Nat} {f : Addr} {fd : FuncData} {N ps : List Str} {sp : Sp} {x name qual : Str} {params : Arguments} {body : List Stmt} {scope : Scope} {dvs : List V} {kws : List (Str × V)}
theorem FnG.of (F : FnOk P w K mg base CX k f fd ps sp) : FnG P w K mg base CX k f fd ps sp := ⟨F.len, fun A outer s H args us vs Q E hr _ => F.run A outer s H args us vs Q E hr⟩
/-- one entry of a def -/
theorem fng_of {dV kV doc pm cdv ct oc : Value} {an od : Option Addr} {osl : Array (Option Value)} (lk : K.lookup f = some ⟨oc, od, .func (PySem.W.fnOf name qual params body scope dV kV doc pm an cdv ct), osl⟩) (hcd : PySem.W.codeIn K cdv qual = true) (S : FnScope N ps scope)
    (len : ∀ vs H Q E, sp vs H Q E → vs.length = ps.length)
    (hbody : ∀ (A : Around) (outer : List Env) (s : Shared) (H : Hp) (vs : List V) (Q : VK) (E : XK), Room k (A.deeper (envOfC qual scope s.heap.objs.size f cdv)) → A.guards = some [] → sp vs H Q E →
      ∃ t, PSs (cxOf CX P w K mg base N qual scope f cdv A outer s H E) body t ∧ t { nx := fun _ H' => Q .non H', rt := Q } (start N vs) H) :
    FnG P w K mg base CX (k + 1) f (PySem.W.fnOf name qual params body scope dV kV doc pm an cdv ct) ps sp where
  len := len
  run A outer s H args us vs Q E hr hg e0 hb r hsp := by
    have up : ∀ b o, base.get? b = some o → s.heap.get? b = some o := fun b o e => (e0.bs b o e).1
    have KX : K.In s.heap := e0.mod.kin.keeps up
    have par : ∀ y ∈ ps.zip us, scope.names.lookup y.1 = some .local ∨ (scope.names.lookup y.1 = some .cell ∧ ((cellsFrom (s.heap.objs.size + 1) scope.names []).lookup y.1).isSome = true) := by
      rintro ⟨n, v⟩ hy
      exact (S.par n (List.of_mem_zip hy).1).imp id fun q => ⟨q, PySem.W.cellsFrom_some _ _ _ (.inl q)⟩
    refine codeAny_call_function hr.depth (KX _ _ lk) rfl S.co S.gen rfl (PySem.W.codeRec_of KX hcd) (hb _ _ _ _ (wpAny_newFunctionEnv_cells S.kind par fun env he s1 x => ?_))
    subst he
    obtain ⟨t, ht, hq⟩ := hbody A outer s H vs Q E (hr.deeper _) hg hsp
    refine ⟨(e0.mod.nolimit.keeps up).keeps x.toInCall.keep, codeAny_func (wpAny_mono (ht.run [] s1 (start N vs) H _ (inv_start S hr.hd e0 (len _ _ _ _ hsp) r x) hq) (fun fl s' hs => ?_) fun e s' hs => hs)⟩
    cases fl with
    | ret u => exact let ⟨v, _, H', J, rv, q⟩ := hs; ⟨v, H', J.os, J.bare, J.base, J.hok, rv, q⟩
    | next => exact let ⟨_, H', J, q⟩ := hs; ⟨V.non, H', J.os, J.bare, J.base, J.hok, rfl, q⟩
    | brk => exact let ⟨_, _, _, q⟩ := hs; q.elim
    | cont => exact let ⟨_, _, _, q⟩ := hs; q.elim
/-- what the body must do -/
def BodyG (P : Program) (w : World) (K : PySem.W.Frag) (mg : Str → Option Value) (base : Heap) (N ps : List Str) (qual : Str) (scope : Scope) (body : List Stmt) (f : Addr) (k : Nat) (as : List VR) (O : Own) (o : Out) : Prop :=
  ∀ (cdv : Value) (A : Around) (outer : List Env) (s : Shared) (H : Hp) (E : XK) (F : Fm), Room k (A.deeper (envOfC qual scope s.heap.objs.size f cdv)) → (A.deeper (envOfC qual scope s.heap.objs.size f cdv)).guards = some [] →
    HB (cxOf (L2.CX P w) P w K mg base N qual scope f cdv A outer s H E).nox (fun _ _ _ _ => False) F (as.map some ++ List.replicate (N.length - ps.length) none) O body o
theorem fng_v {as : List VR} {O O' : Own} {R : VR} (F : FunD K x qual params body scope dvs kws f fd) (S : FnScope N ps scope) (hl : as.length = ps.length) (hb : BodyG P w K mg base N ps qual scope body f k as O (.rt R O')) :
    FnG P w K mg base (L2.CX P w) (k + 1) f fd ps (SpV as O O' R) := by
  obtain ⟨oc, od, dV, kV, doc, pm, an, cdv, ct, osl, rfl, lk, hcd, _, _⟩ := F.ex
  refine fng_of lk hcd S (fun vs H Q E h => ?_) fun A outer s H vs Q E hr hg h => ?_
  · obtain ⟨G, h1, _⟩ := h
    rw [h1.length, hl]
  · obtain ⟨G, h1, h2, h3⟩ := h
    exact ⟨_, pb_run.nox, hb cdv A outer s H E _ hr hg _ G H _ (Sta.start h2 h1 hl) fun v G' H' s' f' p => h3 v G' H' f' p⟩
structure DefG (P : Program) (w : World) (K : PySem.W.Frag) (mg : Str → Option Value) (base : Heap) (x : Str) (k : Nat) (ps : List Str) (dvs : List V) (sp : Sp) : Prop where
  m : mg x = some (.ref (He.ga K x))
  kp : PySem.W.keepIn K (.ref (He.ga K x)) = true
  ex : ∃ fd ds, FnG P w K mg base (L2.CX P w) k (He.ga K x) fd ps sp ∧ Binds K fd ps ds ∧ Vals dvs ds
theorem defg {fa : List He.Fa} {fn : List He.DefD} {h : Heap} {d : He.DefD} (T : Tb fa fn K mg h) (m : mg x = some (.ref (He.ga K x))) (i : Nat) (e : fn[i]? = some d) (hx : d.at_ = (x, none)) (hd : d.dfl = []) (hk : d.kwd = [])
    (hb : ∀ (kV doc pm : Value) (an : Option Addr) (cdv ct : Value) (us : List Value), us.length = ps.length → bindArgs (PySem.W.fnOf d.name d.qual d.params d.body d.scope .none kV doc pm an cdv ct) ⟨us, []⟩ = pure (ps.zip us))
    (ok : ∀ fd, FunD K d.name d.qual d.params d.body d.scope [] [] (He.ga K x) fd → FnG P w K mg base (L2.CX P w) k (He.ga K x) fd ps sp) : DefG P w K mg base x k ps [] sp := by
  obtain ⟨fd, FD⟩ := T.c.def_ i e
  have e1 : He.fAd K d.at_ = He.ga K x := by rw [hx]; rfl
  have e2 : d.dvs K = [] := by unfold He.DefD.dvs; rw [hd]; rfl
  have e3 : d.kws K = [] := by unfold He.DefD.kws; rw [hk]; rfl
  rw [e1, e2, e3] at FD
  obtain ⟨oc, od, dV, kV, doc, pm, an, cdv, ct, osl, h1, _, _, h4, _⟩ := id FD.ex
  obtain rfl : dV = .none := h4.elim (fun z => z.2) fun z => absurd rfl z.1
  exact ⟨m, FD.kp, fd, [], ok fd FD, h1 ▸ .all (hb kV doc pm an cdv ct), .nil⟩
end
section
variable {X : Cx} {W : WX} {F : Fm} {C C1 C' : Ctx} {O O1 O2 O3 O' : Own} {e e2 e3 : Expr} {es : List Expr} {R R' S : VR} {Rs as : List VR} {pos p : Pos} {st : Stmt} {rest body els : List Stmt} {o : Out} {b c : Bool} {dvs : List V} {x : Str} {ps : List Str} {k : Nat} {ds : List PyData}
theorem pe_callG {CX : CXT} {f : Addr} {fd : FuncData} {sp : Sp} {dw : List Value} {E : XK} (D : FnG X.prog X.w X.K X.mg X.base CX k f fd ps sp) (hr : Room k X.A) (hgd : X.A.guards = some []) (hg : Gl X x) (hm : X.mg x = some (.ref f)) (hk : PySem.W.keepIn X.K (.ref f) = true) (hb : Binds X.K fd ps dw) (hd : Vals dvs dw)
    (hx : Passes CX X E) {t : TA} (ha : PA X (e :: es) t) (hdb : (x == ("__debug__" : Str)) = false := by decide) (he : starEach (e :: es) X.env = (false, eval e X.env) :: starEach es X.env := by rfl) (hpl : (backTo pos (starEach es X.env)).any (·.1) = false := by rfl) :
    PE X (.Call (.Name x p) (e :: es) [] pos) (tCall sp dvs E t) := by
  refine ⟨fun pins s σ H Q I h => wpAny_Call_Name_kw (ld_glob I hg hm (PySem.W.callWith_K (h₀ := X.base) I.ok.mod.kin hk (thn (ha.run pos pins s σ H _ I h) fun us s1 ⟨vs, H1, I1, r, q⟩ => ⟨I1.kIn, ?_⟩) he hpl) hdb)⟩
  have r2 := r.append hd
  have hl : (us ++ dw).length = ps.length := r2.length.symm.trans (D.len _ _ _ _ q)
  refine wpAny_call (codeAny_mono (D.run X.A X.stack s1 H1 ⟨us, []⟩ (us ++ dw) (vs ++ dvs) Q E hr hgd I1.env0 (hb s1 us I1.kIn hl) r2 q) fun r' s' hq => ?_)
  match r', hq with
  | .error e, hq => exact hx pins σ H1 s1 e s' I1 hq
  | .ok (.ret u), hq => exact I1.after hq
/-- a call of a def that asks that no display is under way -/
theorem he_cg (ha : HA X F C O (e :: es) Rs O1) (hs : SubL Rs as dvs) (D : DefG X.prog X.w X.K X.mg X.base x k ps dvs (SpV as [] [] R)) (hr : Room k X.A) (hgd : X.A.guards = some []) (hg : Gl X x := by rfl)
    (hdb : (x == ("__debug__" : Str)) = false := by decide) (he : starEach (e :: es) X.env = (false, eval e X.env) :: starEach es X.env := by rfl) (hpl : (backTo pos (starEach es X.env)).any (·.1) = false := by rfl) :
    HE X F C O (.Call (.Name x p) (e :: es) [] pos) R O1 := fun σ G H Q E kk => by
  obtain ⟨fd, dw, D1, bd, vd⟩ := D.ex
  refine PE.go (pe_callG D1 hr hgd hg D.m D.kp bd vd passL pa_run hdb he hpl) (ha σ G H _ E fun vs G1 H1 s1 E1 p1 => ?_)
  exact ⟨G1, hs G1 vs p1, E1.fr.start (O1 := []), fun v G2 H2 f2 p2 => kk v G2 H2 (s1.trans f2.g) (E1.up (E1.fr.call (O1 := []) f2) f2.g) p2⟩
/-- repr of a list, a tuple of data -/
def isSeqD : PyData → Bool
  | .list _ => true
  | .tuple _ => true
  | _ => false
theorem he_repr {d : PyData} (hm : X.mg "repr" = none) (hgd : X.A.guards = some []) (hu : X.A.units + (d.depth + 1) < cLine) (h : HE X F C O e (Dv d) O1) (hsq : isSeqD d = true) (hsh : d.showable = true) (hnd : d.hasDict = false) (hz : d.shown.length ≤ sizeLine) (hg : Gl X "repr" := by rfl) (he : starEach [e] X.env = (false, eval e X.env) :: starEach [] X.env := by rfl) :
    HE X F C O (.Call (.Name "repr" p) [e] [] pos) (St' d.shown) O1 :=
  he_callB (r := fun xs H Q => ∃ a, xs = [.ref a] ∧ Dp X.K H (.ref a) d ∧ Q (.str d.shown) H) (fun pins s σ H xs us Q I r h => by
    obtain ⟨a, rfl, dp, q⟩ := h
    obtain ⟨u, rfl, ru⟩ := vals1 r
    obtain rfl : u = Value.ref a := ru
    obtain ⟨as, rd⟩ := Dp.reads I d _ _ dp rfl
    exact PySem.repr_of_reads' rd hsh (PyData.noDict_hsm hnd) hgd hu (fun _ _ e => e) (fun h' u tk hk => ⟨.str d.shown, H, I.kept (t' := tk) hk, ⟨u, rfl⟩, q⟩) hz) hm (by decide +kernel) (ha_cons h ha_nil he) (fun vs G H Q f p k => by
    obtain ⟨v, rfl, hv⟩ := p.one
    have dp := Is.dp (K := X.K) d v (Is.up f.gh d v hv)
    have : ∃ a, v = .ref a := by
      cases d with
      | list ds => obtain ⟨a, _, e, _⟩ := isL hv; exact ⟨a, e⟩
      | tuple ds => obtain ⟨a, _, e, _⟩ := isT hv; exact ⟨a, e⟩
      | _ => cases hsq
    obtain ⟨a, rfl⟩ := this
    exact ⟨a, rfl, dp, k _ G H (Same.refl G) f (.str _)⟩) hg (by decide) (by decide) he
end
/-! the law's own entry -/
theorem law_g {P : Program} {w : World} {K : PySem.W.Frag} {mg mb : Str → Option Value} {CX : CXT} {k : Nat} {fa a : Addr} {fd : FuncData} {x : Str} {sp : Sp} {s₁ : Shared} {vs : List Value} {ns : List Int}
    (KX : K.In s₁.heap) (hns : s₁.heap.Ns mainGlobals mg) (hb : s₁.heap.Ns builtinsNs mb) (hbb : ∀ x : Str, x ≠ "__name__" → mb x = bootBuiltins x) (hlim : s₁.heap.NoLimit) (hg : s₁.gens = #[])
    (ha : s₁.heap.get? a = some { cls := .type "list", data := .seq vs.toArray }) (hi : IntsAre vs ns) (hl : ns.length ≤ sizeLine) (hr : Room k callerA)
    (F : ∀ base : Heap, K.In base → base.Ns mainGlobals mg → FnG P w K mg base CX k fa fd [x] sp) (hbind : ∀ (s : Shared) (u : Value), BindsTo s fd ⟨[u], []⟩ [(x, u)])
    (hsp : ∀ H : Hp, Only H → SqL K H a (ns.map V.int) → sp [.ref a] H (fun v _ => v = .bl true) fun _ _ _ => False)
    (hCX : ∀ H e s', CX [] H s₁ (fun _ _ _ => False) e s' → False) :
    codeAny (model P w) callerA (.call (.ref fa) ⟨[.ref a], []⟩) (fun r s' => r = .ok (.ret (.bool true)) ∧ OldK s₁.heap s'.heap ∧ s'.os = s₁.os ∧ AllBare s'.gens) s₁ := by
  let scr : HO := .frz { cls := .type "list", data := .seq vs.toArray } (.lst (ns.map V.int))
  -- the heap in which the script alone is known, if it is none of the module's own
  obtain ⟨H, hH, hS⟩ : ∃ H : Hp, (∀ b, H b = none ∨ (b = a ∧ K.lookup a = none ∧ H b = some scr)) ∧ SqL K H a (ns.map V.int) := by
    cases hk : K.lookup a with
    | some o =>
      have e := KX a o hk
      rw [ha] at e
      cases e
      exact ⟨fun _ => none, fun _ => .inl rfl, .inr ⟨_, vs.toArray, _, hk, rfl, rfl, rfl, by rw [List.size_toArray, hi.length]; exact hl, by simpa using vals_ints hi⟩⟩
    | none =>
      refine ⟨upd (fun _ => none) a scr, fun b => ?_, .inl (.inr ⟨_, upd_same⟩)⟩
      by_cases e : b = a
      · exact .inr ⟨e, rfl, by rw [e]; exact upd_same⟩
      · exact .inl (upd_ne e)
  have hO : Only H := fun b => (hH b).imp id fun z => ⟨_, _, z.2.2⟩
  have hok : HOk P w H s₁.heap := fun b u z => by
    rcases hH b with q | ⟨rfl, _, q⟩
    · rw [q] at z; cases z
    · rw [q] at z; cases z
      exact ⟨ha, by rw [List.length_map]; exact hl, vs, _, vals_ints hi, ha⟩
  have base_of : ∀ {b : Addr} {o : Obj}, s₁.heap.get? b = some o → H b = none → (hidT s₁.heap H).get? b = some o := fun e n => hidT_get e n
  have noA : ∀ {b : Addr} {o : Obj} {es : Array DictEntry} {ep : Nat}, s₁.heap.get? b = some o → o.data = .dict es ep → H b = none := fun {b o es ep} e d => by
    rcases hH b with q | ⟨rfl, _, _⟩
    · exact q
    · rw [ha] at e; cases e; cases d
  have nsK : ∀ {b : Addr} {m : Str → Option Value}, s₁.heap.Ns b m → (hidT s₁.heap H).Ns b m := fun z => let ⟨o, es, ep, e, d, r⟩ := z; ⟨o, es, ep, base_of e (noA e d), d, r⟩
  have hKb : K.In (hidT s₁.heap H) := fun b o e => base_of (KX b o e) (by
    rcases hH b with q | ⟨rfl, q, _⟩
    · exact q
    · rw [q] at e; cases e)
  have e0 : Env0 P w K mg (hidT s₁.heap H) callerA [] s₁ H :=
    ⟨rfl, ⟨hKb, nsK hns, ⟨mb, nsK hb, hbb⟩, (let ⟨mc, h1, h2⟩ := hlim; ⟨mc, nsK h1, h2⟩)⟩, fun b o e => of_hidT e, Nat.le_of_eq (hidT_size _ _), trivial, fun b hb => (by cases (show b ∈ ([] : List Addr) from hb)), hok, .of_eq hg⟩
  refine codeAny_mono ((F _ hKb (nsK hns)).run callerA [] s₁ H ⟨[.ref a], []⟩ [.ref a] [.ref a] _ _ hr rfl e0 (hbind s₁ (.ref a)) (.cons rfl .nil) (hsp H hO hS)) fun r s' h => ?_
  match r, h with
  | .error e, h => exact (hCX H e s' h).elim
  | .ok (.ret u), h =>
    obtain ⟨v, H', os, bare, un, hok', r', q⟩ := h
    obtain rfl : v = .bl true := q
    obtain rfl : u = Value.bool true := r'
    refine ⟨rfl, OldK.of_keep fun b o e => ?_, os, bare⟩
    rcases hH b with q | ⟨rfl, _, q⟩
    · exact un.keep b o e q (fun z => by cases (show b ∈ ([] : List Addr) from z)) (by simp)
    · obtain ⟨e2, _⟩ := hok' b _ (un.frzs b _ _ q)
      rw [ha] at e; cases e
      exact e2
theorem walk_g {l : PySem.W.OpenLaw} {n k : Nat} {q : Program} {loose : List Str} {XP : (Str → Option Value) → Heap → Prop} {YP : World → Heap → Prop} {d : DefRec} {CX : World → CXT} {x : Str}
    (hn : l.most = some n) (hn2 : n ≤ sizeLine) (hdf : d.params.defaults = []) (hr : Room k callerA)
    (F : ∀ (w : World) (mg : Str → Option Value) (fa : Addr) (h : Heap), YP w h → h.Ns mainGlobals mg → mg d.name = some (.ref fa) →
      ∃ (K : PySem.W.Frag) (fd : FuncData) (sp : Sp), K.In h ∧ (∀ (s : Shared) (u : Value), BindsTo s fd ⟨[u], []⟩ [(x, u)]) ∧
        (∀ (H : Hp) (a : Addr) (ns : List Int), ns.length ≤ n → Only H → SqL K H a (ns.map V.int) → sp [.ref a] H (fun v _ => v = .bl true) fun _ _ _ => False) ∧
        ∀ base : Heap, K.In base → base.Ns mainGlobals mg → FnG l.prog w K mg base (CX w) k fa fd [x] sp)
    (hCX : ∀ (w : World) (H : Hp) (s : Shared) (e : Value) (s' : Shared), CX w [] H s (fun _ _ _ => False) e s' → False) :
    PySem.W.WalkO q loose XP YP l.row.toRowW d [] (fun f vs => PySem.call f vs) :=
  Att.attach_call hn hdf fun w s₀ s₁ mg mb fa o pm cd doc a vs ns G Y ho hd hcd hmg hobj hints hlen hg =>
    let ⟨K, fd, sp, KX, hb, hsp, hF⟩ := F w mg fa _ Y G.T.g hmg
    law_g KX G.T.g G.T.b G.T.builtins G.T.nolimit hg hobj hints (Nat.le_trans hlen hn2) hr hF hb (fun H hO hS => hsp H a ns hlen hO hS) fun H e s' => hCX w H s₁ e s'
theorem FnG.ex {α : Type} {P : Program} {w : World} {K : PySem.W.Frag} {mg : Str → Option Value} {base : Heap} {CX : CXT} {k : Nat} {f : Addr} {fd : FuncData} {ps : List Str} {sp : α → Sp} (F : ∀ x, FnG P w K mg base CX k f fd ps (sp x)) : FnG P w K mg base CX k f fd ps (fun vs H Q E => ∃ x, sp x vs H Q E) :=
  ⟨fun vs H Q E ⟨x, h⟩ => (F x).len vs H Q E h, fun A outer s H args us vs Q E hr hg e0 hb r ⟨x, h⟩ => (F x).run A outer s H args us vs Q E hr hg e0 hb r h⟩
/-- the law's promise -/
def spLaw (K : PySem.W.Frag) : Sp := fun vs H Q E => ∃ ns, SpV [Scr K ns] [] [] (Bo true) vs H Q E
theorem spLaw_of {K : PySem.W.Frag} {H : Hp} {a : Addr} {ns : List Int} (h : SqL K H a (ns.map V.int)) : spLaw K [.ref a] H (fun v _ => v = .bl true) fun _ _ _ => False := by
  refine ⟨ns, H, .cons ⟨a, rfl, h⟩ .nil, ⟨Same.refl H, Same.refl H, fun _ _ _ z => z, fun _ z => z, fun _ _ z => .inl z, fun c hc => (by cases hc), .nil, fun a ha => (by cases ha)⟩, fun v G' H' _ p => isB p⟩
theorem cx_false {P : Program} {w : World} (H : Hp) (s : Shared) (e : Value) (s' : Shared) (h : L2.CX P w [] H s (fun _ _ _ => False) e s') : False := by
  obtain ⟨_, _, _, _, _, _, _, _, _, _, _, _, hE⟩ := h
  exact hE
end Tp

namespace Tp
open PySem PySem.Spec PyProof.Rows L2 Mq
theorem IsL.set {H : Hp} : ∀ {ds : List PyData} {vs : List V} {j : Nat} {d : PyData} {v : V}, IsL H vs ds → Is H v d → IsL H (vs.set j v) (ds.set j d)
  | [], _, j, d, v, h, r => by cases h; exact .nil
  | _ :: ds, _, 0, d, v, h, r => by
    cases h with
    | cons h t => exact .cons r t
  | _ :: ds, _, j + 1, d, v, h, r => by
    cases h with
    | cons h t => exact .cons h (t.set r)
/-! pairs of ints as data -/
def prD (p : Int × Int) : PyData := .tuple [.int p.1, .int p.2]
/-- the pair that a value stands for -/
def pkV (G : Hp) (v : V) : Int × Int := match v with
  | .ref t => (match G t with
    | some (.tup [.int a, .int b]) => (a, b)
    | _ => (0, 0))
  | _ => (0, 0)
def Prs (G : Hp) (xs : List V) : Prop := ∀ x ∈ xs, ∃ t, x = .ref t ∧ G t = some (.tup [.int (pkV G x).1, .int (pkV G x).2])
theorem prs_of {G : Hp} : ∀ {ps : List (Int × Int)} {xs : List V}, IsL G xs (ps.map prD) → xs.map (pkV G) = ps ∧ Prs G xs
  | [], _, h => by cases h; exact ⟨rfl, fun x z => by cases z⟩
  | p :: ps, _, h => by
    cases h with
    | cons h t =>
      obtain ⟨e1, e2⟩ := prs_of t
      obtain ⟨a, ys, rfl, ha, r⟩ := isT (show Is G _ (.tuple [.int p.1, .int p.2]) from h)
      have r2 : ys = [V.int p.1, V.int p.2] := IsL.ints (ns := [p.1, p.2]) r
      subst r2
      have pk : pkV G (.ref a) = p := by unfold pkV; simp only [ha]
      refine ⟨by rw [List.map_cons, pk, e1], fun x hx => ?_⟩
      rcases List.mem_cons.mp hx with z | z
      · subst z; exact ⟨a, rfl, by rw [pk]; exact ha⟩
      · exact e2 x z
theorem prs_isL {G : Hp} : ∀ {xs : List V}, Prs G xs → IsL G xs ((xs.map (pkV G)).map prD)
  | [], _ => .nil
  | x :: xs, h => by
    obtain ⟨t, e, ht⟩ := h x List.mem_cons_self
    refine .cons ?_ (prs_isL fun y hy => h y (List.mem_cons_of_mem _ hy))
    rw [e] at ht ⊢
    exact .tup ht (.cons (.int _) (.cons (.int _) .nil))
theorem prs_up {G G' : Hp} (s : Same G G') {xs : List V} (h : Prs G xs) : Prs G' xs ∧ xs.map (pkV G') = xs.map (pkV G) := by
  have e : ∀ x ∈ xs, pkV G' x = pkV G x := fun x hx => by
    obtain ⟨t, e, ht⟩ := h x hx
    subst e
    have h2 := s _ _ ht
    conv => lhs; unfold pkV
    simp only [h2]
  refine ⟨fun x hx => ?_, List.map_congr_left e⟩
  obtain ⟨t, e1, ht⟩ := h x hx
  exact ⟨t, e1, by rw [e x hx]; exact s _ _ ht⟩
abbrev LexS (ps : List (Int × Int)) : Prop := ps.Pairwise fun a b => SrtO.lexB b a = false
theorem lex_anti {a b : Int × Int} (h1 : SrtO.lexB a b = false) (h2 : SrtO.lexB b a = false) : a = b := by
  have x := SrtO.lexB_no.mp h1
  have y := SrtO.lexB_no.mp h2
  exact Prod.ext (by omega) (by omega)
theorem lex_uniq : ∀ {xs ys : List (Int × Int)}, xs.Perm ys → LexS xs → LexS ys → xs = ys
  | [], ys, h, _, _ => (List.nil_perm.mp h).symm
  | x :: xs, [], h, _, _ => (List.cons_ne_nil _ _ (List.perm_nil.mp h)).elim
  | x :: xs, y :: ys, h, p, q => by
    obtain ⟨p1, p2⟩ := List.pairwise_cons.mp p
    obtain ⟨q1, q2⟩ := List.pairwise_cons.mp q
    have e : x = y := by
      rcases List.mem_cons.mp (h.mem_iff.mp List.mem_cons_self) with e | hx
      · exact e
      · rcases List.mem_cons.mp (h.mem_iff.mpr List.mem_cons_self) with e | hy
        · exact e.symm
        · exact lex_anti (q1 x hx) (p1 y hy)
    subst e
    rw [lex_uniq h.cons_inv p2 q2]
/-! ### sorted(a set of pairs) -/
section
variable {P : Program} {w : World} {A : Around} {E : Value → Shared → Prop} {s : Shared} {a : Addr} {L : List (Addr × List Int)} {es : Array (Int × Value)} {ep : Nat} {t : SetTable}
theorem sorted_setP {Q : Value → Shared → Prop} (R : SetTR P w s.heap a L es ep t) (hh : A.handled = none) {k : Value → Int × Int} (hp : ∀ q ∈ L, Srt.IsPair s.heap (.ref q.1) (k (.ref q.1)).1 (k (.ref q.1)).2)
    (hQ : ∀ s' p (out : List Value) (c : Nat), (∀ b o, s.heap.get? b = some o → s'.heap.get? b = some o) → s'.gens = s.gens → s'.os = s.os → s.heap.objs.size ≤ p → s'.heap.get? p = some (seqObj "list" out.toArray c) →
      out.Perm (L.map fun q => Value.ref q.1) → SrtO.Srtd (fun v u => SrtO.lexB (k v) (k u)) out → Q (.ref p) s') : wpAny (model P w) A (call (.builtin "sorted") [.ref a]) Q E s := by
  obtain ⟨o, ho, hex, hd⟩ := R.ob
  have hsz := R.size
  have hfew := R.few
  refine Calls.call_function_entry kind_sorted plain_sorted entry_sorted (args_sorted1 _) ?_
  unfold Builtin.«sorted»
  refine wpAny_bind (m := checkCount "sorted" 1 1 _) (wpAny_pure ?_)
  refine wpAny_bind (collect_set (A := A.in1) hh ⟨o, ho, hex.1, hd⟩ R.fits (by unfold scanBound; omega) R.tab.ris R.led fun s1 vs k1 hz g1 o1 pm => ?_)
  have hes : es.toList.map (·.2) = L.map fun q => Value.ref q.1 := by
    rw [R.rows]
    unfold rowsOf
    rw [List.map_map]; rfl
  rw [hes] at pm
  have hvl : vs.length ≤ sizeLine := by rw [pm.length_eq, List.length_map, sizeLine_eq]; omega
  refine wpAny_bind (wpAny_newList ?_ hvl)
  have hoL : (s1.heap.push (seqObj "list" vs.toArray 0)).get? s1.heap.objs.size = some (seqObj "list" vs.toArray 0) := Heap.get?_push_size _ rfl
  have pr : ∀ v ∈ vs, Srt.IsPair (s1.heap.push (seqObj "list" vs.toArray 0)) v (k v).1 (k v).2 := fun v hv => by
    obtain ⟨q, hq, e⟩ := List.mem_map.mp (pm.mem_iff.mp hv)
    subst e
    exact (hp q hq).keeps fun b u e _ => Heap.get?_push_of_some _ (k1 b u e)
  refine wpAny_bind (wpAny_holding (wpAny_call_entry slot_list_sort ⟨_, hoL, rfl⟩ entry_list_sort (SrtO.list_sort_ord (s := { s1 with heap := s1.heap.push (seqObj "list" vs.toArray 0) }) (SrtO.swo_lex k) hoL hvl (fun h2 => SrtO.pairs_sortableO (by omega) pr fun o e c => ?_) fun out hs hb => ⟨_, rfl, ?_⟩) (args_list_sort _)))
  · have e' : some o = some (seqObj "list" vs.toArray 0) := e.symm.trans hoL
    cases e'
    exact absurd (Value.type.inj c) (by decide)
  · obtain ⟨c, hc⟩ := sortedHeap_at (vs := vs) (out := out.toArray) hoL
    refine wpAny_pure ⟨_, rfl, hQ _ s1.heap.objs.size out c (fun b u e => ?_) g1 o1 hz hc (hb.perm.trans pm) hs⟩
    have q := k1 b u e
    have hlt := Heap.lt_size q
    show (sortedHeap (s1.heap.push (seqObj "list" vs.toArray 0)) s1.heap.objs.size vs out.toArray).get? b = some u
    rw [sortedHeap_old (Nat.ne_of_lt hlt) (by rw [size_push']; exact Nat.lt_succ_of_lt hlt)]
    exact Heap.get?_push_of_some _ q
end
section
variable {X : Cx}
def adV : V → Addr
  | .ref t => t
  | _ => 0
end
section
variable {X : Cx}
def rSortSP (P : Program) (w : World) : List V → Hp → VK → Prop := fun vs H Q => ∃ (a : Addr) (L : List (Addr × List Int)), vs = [V.ref a] ∧ H a = some (SetTO P w a L) ∧ (∀ q ∈ L, ∃ i j, q.2 = [i, j] ∧ H q.1 = some (.tup [.int i, .int j])) ∧
  ((L.map (·.2)).Nodup → ∀ (ys : List V) (p : Addr), ys.Perm (L.map fun q => V.ref q.1) → LexS (ys.map (pkV H)) → H p = none → Q (.ref p) (upd H p (.lst ys)))
theorem cr_sortSP (hc : X.calm = true) : CallR X (.builtin "sorted") (rSortSP X.prog X.w) := by
  intro pins s σ H vs us Q I r h
  obtain ⟨a, L, rfl, ha, hk, q⟩ := h
  have R0 : SetT0 X.prog X.w s.heap a L := (I.hok a _ ha).1
  have sq : ∀ p ∈ L, SqT X.K H p.1 (p.2.map V.int) := fun p hp => by
    obtain ⟨i, j, e1, e2⟩ := hk p hp
    rw [e1]; exact SqT.of e2
  obtain ⟨es, ep, t, R⟩ := R0.full fun p hp => I.isT (sq p hp)
  rw [Vals.ref1 r]
  refine sorted_setP R (I.ok.hd hc) (k := fun u => pkV H (backV u)) (fun p hp => ?_) fun s' p out c k g o hp hg pm hs => ?_
  · obtain ⟨i, j, _, e2⟩ := hk p hp
    have pe : pkV H (backV (Value.ref p.1)) = (i, j) := by
      show pkV H (V.ref p.1) = _
      unfold pkV; simp only [e2]
    rw [pe]
    obtain ⟨_, its, rv, o, ho, hcl, n, hd⟩ := I.hok _ _ e2
    obtain ⟨u1, u2, rfl, r1, r2⟩ := vals2 rv
    obtain ⟨t1, rfl⟩ := r1
    obtain ⟨t2, rfl⟩ := r2
    exact ⟨p.1, o, t1, t2, n, rfl, ho, hcl, hd⟩
  · have h3 : ∀ u ∈ out, ∃ b, u = Value.ref b := fun u hu => by
      obtain ⟨z, _, e⟩ := List.mem_map.mp (pm.mem_iff.mp hu)
      exact ⟨z.1, e.symm⟩
    have hfew := R.few
    have hlen : (out.map backV).length ≤ sizeLine := by rw [List.length_map, pm.length_eq, List.length_map, sizeLine_eq]; omega
    have hn : H p = none := I.hok.fresh hp
    have J : Inv X pins σ (upd H p (.lst (out.map backV))) { s with heap := s'.heap, gens := s'.gens, drawn := s'.drawn, toks := s'.toks } :=
      I.call (ch := []) (Un.laid k hp hn) (I.hok.laid k hp ⟨hlen, out, c, vals_back h3, hg⟩) (by rw [g]; exact I.bare) (fun _ z => nomatch z)
    have e : s' = { s with heap := s'.heap, gens := s'.gens, drawn := s'.drawn, toks := s'.toks } := by
      cases s'; cases s; cases o; rfl
    rw [e]
    refine ⟨.ref p, _, J, rfl, q R.nd _ p ?_ ?_ hn⟩
    · have := pm.map backV
      rw [List.map_map] at this
      exact this
    · rw [List.map_map]
      exact List.pairwise_map.mpr hs
end
section
variable {X : Cx} {W : WX} {F : Fm} {C C1 C' : Ctx} {O O1 O2 O3 O' : Own} {e e2 e3 : Expr} {es : List Expr} {R R' S : VR} {Rs as : List VR} {pos p p2 pos2 : Pos} {st : Stmt} {rest body els : List Stmt} {o : Out} {b c : Bool} {dvs : List V} {x : Str} {k : Nat} {ds : List PyData}
/-- sorted(pairs) -/
theorem hl_sortP {ps qs : List (Int × Int)} (hm : X.mg "sorted" = none) (h : HE X F C O e (Ls (ps.map prD)) O1) (hp : qs.Perm ps) (hq : LexS qs) (hg : Gl X "sorted" := by rfl) (hs : starEach [e] X.env = (false, eval e X.env) :: starEach [] X.env := by rfl) :
    HL X F C O (.Call (.Name "sorted" p) [e] [] pos) (qs.map prD) O1 := fun σ G H Q E k =>
  PE.go (pe_callB cr_sortedPO hg hm (by decide +kernel) (pa_cons pe_run pa_nil hs) (by decide) (by decide) hs rfl) (h σ G H _ E fun v G1 H1 s1 E1 p1 => by
    obtain ⟨a, xs, rfl, ha, r⟩ := isL p1
    obtain ⟨e1, e2⟩ := prs_of r
    refine ⟨a, xs, pkV G1, rfl, SqL.of (E1.fr.gh _ _ ha), fun x hx => ?_, fun ys q h1 h2 hq' => ?_⟩
    · obtain ⟨t, e, ht⟩ := e2 x hx
      exact ⟨t, e, E1.fr.gh _ _ ht⟩
    · have pr : Prs G1 ys := fun y hy => e2 y (h2.perm.mem_iff.mp hy)
      have eq : ys.map (pkV G1) = qs := lex_uniq ((h2.perm.map _).trans (by rw [e1]; exact hp.symm)) (List.pairwise_map.mpr h1) hq
      have := prs_isL pr
      rw [eq] at this
      exact k q G1 _ s1 (E1.fr.there q hq') (E1.up (E1.fr.mine hq' ⟨_, rfl, this⟩) (Same.refl _)))
/-- sorted(set(pairs)) -/
theorem hl_sortSetP {ps qs : List (Int × Int)} (hm : X.mg "sorted" = none) (hm2 : X.mg "set" = none) (hc : X.calm = true) (hu : X.A.units + 64 < cLine) (h : HE X F C O e (Ls (ps.map prD)) O1) (h64 : ps.length < 64) (hq : LexS qs) (hnd : qs.Nodup) (hi : ∀ p, p ∈ qs ↔ p ∈ ps)
    (hg : Gl X "sorted" := by rfl) (hg2 : Gl X "set" := by rfl) (hs2 : starEach [e] X.env = (false, eval e X.env) :: starEach [] X.env := by rfl) (hs : starEach [.Call (.Name "set" p2) [e] [] pos2] X.env = (false, eval (.Call (.Name "set" p2) [e] [] pos2) X.env) :: starEach [] X.env := by rfl) :
    HL X F C O (.Call (.Name "sorted" p) [.Call (.Name "set" p2) [e] [] pos2] [] pos) (qs.map prD) O1 := fun σ G H Q E k =>
  PE.go (pe_callB (cr_sortSP hc) hg hm (by decide +kernel) (pa_cons pe_run pa_nil hs) (by decide) (by decide) hs rfl) (PE.go (pe_callTy (cr_setOfT hc hu) hg2 hm2 (by decide +kernel) (pa_cons pe_run pa_nil hs2) (by decide) (by decide) hs2 rfl) (h σ G H _ E fun v G1 H1 s1 E1 p1 => by
    obtain ⟨l, xs, rfl, ha, r⟩ := isL p1
    obtain ⟨e1, e2⟩ := prs_of r
    let kf : V → Addr × List Int := fun x => (adV x, [(pkV G1 x).1, (pkV G1 x).2])
    have kx : ∀ x ∈ xs, V.ref (kf x).1 = x ∧ G1 (kf x).1 = some (.tup [.int (pkV G1 x).1, .int (pkV G1 x).2]) := fun x hx => by
      obtain ⟨t, e, ht⟩ := e2 x hx
      subst e
      exact ⟨rfl, ht⟩
    have ksx : (xs.map kf).map (fun p => V.ref p.1) = xs := by
      rw [List.map_map]
      conv => rhs; rw [← List.map_id xs]
      exact List.map_congr_left fun x hx => (kx x hx).1
    refine ⟨l, xs.map kf, rfl, by rw [ksx]; exact SqL.of (E1.fr.gh _ _ ha), fun p hp => ?_, by rw [List.length_map, r.length, List.length_map]; exact h64, fun a L hn hL hall => ?_⟩
    · obtain ⟨x, hx, rfl⟩ := List.mem_map.mp hp
      exact SqT.of (E1.fr.gh _ _ (kx x hx).2)
    have f2 := (E1.fr.mine (o := SetTO X.prog X.w a L) (R := ⟨fun _ _ => True, fun _ _ => trivial⟩) hn trivial).drop
    have qf : ∀ q ∈ L, ∃ x ∈ xs, q = kf x := fun q hq => by
      obtain ⟨x, hx, e⟩ := List.mem_map.mp (hL q hq)
      exact ⟨x, hx, e.symm⟩
    refine ⟨a, L, rfl, upd_same, fun q hq => ?_, fun hnd2 ys q pm hs hq' => ?_⟩
    · obtain ⟨x, hx, rfl⟩ := qf q hq
      exact ⟨_, _, rfl, f2.gh _ _ (kx x hx).2⟩
    have ysx : ∀ y ∈ ys, y ∈ xs := fun y hy => by
      obtain ⟨q, hq, e⟩ := List.mem_map.mp (pm.mem_iff.mp hy)
      obtain ⟨x, hx, rfl⟩ := qf q hq
      rw [← e, (kx x hx).1]; exact hx
    have pr : Prs G1 ys := fun y hy => e2 y (ysx y hy)
    have hs' : LexS (ys.map (pkV G1)) := by
      rw [(prs_up f2.gh pr).2] at hs; exact hs
    have pm2 : (ys.map (pkV G1)).Perm (L.map fun q => pkV G1 (V.ref q.1)) := by
      have := pm.map (pkV G1)
      rw [List.map_map] at this
      exact this
    have l2 : ∀ q ∈ L, q.2 = [(pkV G1 (V.ref q.1)).1, (pkV G1 (V.ref q.1)).2] := fun q hq => by
      obtain ⟨x, hx, rfl⟩ := qf q hq
      rw [(kx x hx).1]
    have nd1 : (L.map fun q => pkV G1 (V.ref q.1)).Nodup := by
      refine List.pairwise_map.mpr ((List.pairwise_map.mp hnd2).imp_of_mem fun {q q'} hq hq' hne e => hne ?_)
      rw [l2 q hq, l2 q' hq', e]
    have eq : ys.map (pkV G1) = qs := by
      refine lex_uniq ((List.perm_ext_iff_of_nodup (pm2.nodup_iff.mpr nd1) hnd).mpr fun z => ?_) hs' hq
      rw [hi, pm2.mem_iff, List.mem_map, ← e1, List.mem_map]
      constructor
      · rintro ⟨q, hq, e⟩
        obtain ⟨x, hx, rfl⟩ := qf q hq
        rw [(kx x hx).1] at e
        exact ⟨x, hx, e⟩
      · rintro ⟨x, hx, e⟩
        obtain ⟨q, hq, e3⟩ := List.mem_map.mp (hall (kf x) (List.mem_map.mpr ⟨x, hx, rfl⟩))
        refine ⟨q, hq, ?_⟩
        have e4 := l2 q hq
        rw [e3] at e4
        injection e4 with a1 a2
        injection a2 with a3 _
        rw [← e]; exact (Prod.ext a1 a3).symm
    have := prs_isL pr
    rw [eq] at this
    exact k q G1 _ s1 (f2.there q hq') (E1.up (f2.mine hq' ⟨_, rfl, this⟩) (Same.refl _))))
theorem upd_len {α : Type} (l : List α) (j : Nat) (a : α) : (l.set j a).length = l.length := List.length_set
/-- o[i] = e, o a list of our own -/
theorem hs_item {eo ei : Expr} {a : Addr} {kk : Int} {j : Nat} {d : PyData} {tp : Pos} (he : HE X F C O e (Dv d) O1) (ho : HE X F C O1 eo (Sv (.ref a)) O2) (hi : HE X F C O2 ei (In kk) ((a, LsO ds) :: O3)) (hj : ixN ds.length kk = some j)
    (ha : ∀ v, assign (.Subscript eo ei tp) X.env v = (do
      let ov ← holding [v] (eval eo X.env)
      let iv ← holding [v, ov] (eval ei X.env)
      standAt tp
      holding [v, ov, iv] (setItem ov iv v)
      release [v, ov, iv] []) := by intro _; rfl) (hs : swapsWithSole [.Subscript eo ei tp] e pos.line X.env = pure false := by rfl) (hw : swappedStores [.Subscript eo ei tp] e X.env = pure none := by rfl)
    (h1 : (assignEach [.Subscript eo ei tp] X.env).map (·.2) = [assign (.Subscript eo ei tp) X.env] := by rfl) : HS X W F C O (.Assign [.Subscript eo ei tp] e pos) (.nx C ((a, LsO (ds.set j d)) :: O3)) := fun σ G H D E k =>
  PS.go (ps_asg pe_run (pg_sub pe_run pe_run set_list ha) hs hw h1) (he σ G H _ E fun v G1 H1 s1 E1 p1 => ho σ G1 H1 _ E1 fun u G2 H2 s2 E2 p2 => hi σ G2 H2 _ E2 fun z G3 H3 s3 E3 p3 => by
    obtain ⟨⟨o, h2, xs, rfl, r⟩, _⟩ := E3.fr.own _ List.mem_cons_self
    have e1 : u = .ref a := p2
    refine ⟨a, xs, kk, j, e1, isI p3, h2, by rw [r.length]; exact hj, ?_⟩
    have pv := (Dv d).m s3 ((Dv d).m s2 p1)
    exact k σ G3 _ ((s1.trans s2).trans s3) (E3.up (E3.fr.put ⟨_, rfl, r.set pv⟩) (Same.refl _)))
/-- a <= b < c -/
theorem ht_leLt {i j l : Int} (h1 : HE X F C O e (In i) O1) (h2 : HE X F C O1 e2 (In j) O1) (h3 : HE X F C O1 e3 (In l) O1) (hm : lastMarks [.LtE, .Lt] [e2, e3] = false := by with_unfolding_all rfl) : HT X F C O (.Compare e [.LtE, .Lt] [e2, e3] pos) (decide (i ≤ j) && decide (j < l)) O1 := fun σ G H Q E k =>
  PT.go (pt_chain op_le op_lt pe_run pe_run pe_run hm) (h1 σ G H _ E fun x G1 H1 s1 E1 p1 => h2 σ G1 H1 _ E1 fun y G2 H2 s2 E2 p2 => ⟨i, j, isI p1, isI p2, decide (i ≤ j), rfl, by
    cases hb : decide (i ≤ j) with
    | false =>
      have kk := k G2 H2 (s1.trans s2) E2
      rw [hb, Bool.false_and] at kk
      exact ⟨false, rfl, kk⟩
    | true => exact h3 σ G2 H2 _ E2 fun z G3 H3 s3 E3 p3 => ⟨j, l, isI p2, isI p3, _, rfl, by
        have kk := k G3 H3 ((s1.trans s2).trans s3) E3
        rw [hb, Bool.true_and] at kk
        exact kk⟩⟩)
/-- [..] * n -/
theorem he_rep {n : Int} (h1 : HE X F C O e (Ls ds) O1) (h2 : HE X F C O1 e2 (In n) O2) (hn : -(2 ^ 63) ≤ n ∧ n < 2 ^ 63) (hz : ds.length * n.toNat ≤ sizeLine) : HE X F C O (.BinOp e .Mult e2 pos) (Ls (List.replicate n.toNat ds).flatten) O2 :=
  he_op op_rep h1 h2 fun x y G H Q f p1 p2 k => by
    obtain ⟨a, xs, rfl, ha, r⟩ := isL p1
    refine ⟨a, n, xs, rfl, isI p2, f.gh _ _ ha, hn.1, hn.2, by rw [r.length]; exact hz, fun q hq => ?_⟩
    have go : ∀ m : Nat, IsL G (List.replicate m xs).flatten (List.replicate m ds).flatten := fun m => by
      induction m with
      | zero => exact .nil
      | succ m ih => rw [List.replicate_succ, List.replicate_succ, List.flatten_cons, List.flatten_cons]; exact r.app ih
    have s2 : Same G (upd G q (.lst (List.replicate n.toNat xs).flatten)) := fun b u z => by
      have hG : G q = none := by
        cases w : G q with
        | none => rfl
        | some u => rw [f.gh q u w] at hq; cases hq
      rw [upd_ne (ne_of_none z hG)]; exact z
    exact k _ _ _ s2 (f.new hq) (.lst upd_same (IsL.up s2 _ _ (go _)))
end
theorem ixN_in {n : Nat} {i : Int} (h : 0 ≤ i ∧ i < n) : ixN n i = some i.toNat := by
  unfold ixN; rw [if_pos h.1, if_pos h.2]
theorem atI_in {α : Type} {xs : List α} {z : α} {i : Int} (h : 0 ≤ i ∧ i < xs.length) : atI xs i = some (xs.getD i.toNat z) := by
  unfold atI
  rw [ixN_in h]
  show xs[i.toNat]? = _
  rw [List.getD_eq_getElem?_getD, List.getElem?_eq_getElem (by omega)]; rfl
section
variable {K : PySem.W.Frag} {O : Own} {ds : List PyData} {i : Int}
theorem IxOk.scrD {ns : List Int} (h : 0 ≤ i ∧ i < ns.length) : IxOk K O (Scr K ns) i (In (ns.getD i.toNat 0)) := IxOk.scr (atI_in h)
theorem IxOk.lstD (h : 0 ≤ i ∧ i < ds.length) : IxOk K O (Ls ds) i (Dv (ds.getD i.toNat .none)) := IxOk.lst (atI_in h)
theorem IxOk.tupD (h : 0 ≤ i ∧ i < ds.length) : IxOk K O (Tu ds) i (Dv (ds.getD i.toNat .none)) := IxOk.tup (atI_in h)
theorem IxOk.lstI {ns : List Int} (h : 0 ≤ i ∧ i < ns.length) : IxOk K O (Ls (ns.map PyData.int)) i (In (ns.getD i.toNat 0)) := IxOk.lst (by
  rw [atI_in (z := PyData.none) (by rw [List.length_map]; exact h), getD_map (z := 0) (by omega)])
theorem IxOk.lstR {qs : List Rat} (h : 0 ≤ i ∧ i < qs.length) : IxOk K O (Ls (qs.map ratD)) i (Rt (qs.getD i.toNat 0)) := IxOk.lst (by
  rw [atI_in (z := PyData.none) (by rw [List.length_map]; exact h), getD_map (z := 0) (by omega)])
end
section
variable {X : Cx} {F : Fm} {C : Ctx} {O O1 O2 : Own} {e e2 : Expr} {pos : Pos}
theorem hb_drop {W : WX} {rest : List Stmt} {o : Out} {c : Addr × HR} (h : HB X W F C O rest o) : HB X W F C (c :: O) rest o := fun σ G H D E k => h σ G H D ⟨E.fr.drop, E.len, E.slot⟩ k
theorem decS_inj {i j : Str} : decide (V.str i = V.str j) = decide (i = j) := by
  by_cases h : i = j
  · subst h; simp
  · rw [decide_eq_false h, decide_eq_false (fun z => h (V.str.inj z))]
theorem ht_eqS {i j : Str} (h1 : HE X F C O e (St' i) O1) (h2 : HE X F C O1 e2 (St' j) O2) : HT X F C O (.Compare e [.Eq] [e2] pos) (decide (i = j)) O2 :=
  ht_cmp op_eq h1 h2 (nomark _) fun x y G H Q f p1 p2 k => by
    rw [isS p1, isS p2]; exact ⟨rfl, k _ G H (Same.refl G) f (by rw [decS_inj]; exact .bl _)⟩
theorem ht_neS {i j : Str} (h1 : HE X F C O e (St' i) O1) (h2 : HE X F C O1 e2 (St' j) O2) : HT X F C O (.Compare e [.NotEq] [e2] pos) (!decide (i = j)) O2 :=
  ht_cmp op_ne h1 h2 (nomark _) fun x y G H Q f p1 p2 k => by
    rw [isS p1, isS p2]; exact ⟨rfl, k _ G H (Same.refl G) f (by rw [decS_inj]; exact .bl _)⟩
end
/-- pairs in order -/
theorem lex_sort (ps : List (Int × Int)) : ∃ qs, qs.Perm ps ∧ LexS qs := by
  induction ps with
  | nil => exact ⟨[], .nil, .nil⟩
  | cons p ps ih =>
    obtain ⟨qs, h1, h2⟩ := ih
    have key : ∀ qs : List (Int × Int), LexS qs → ∃ rs, rs.Perm (p :: qs) ∧ LexS rs := by
      intro qs
      induction qs with
      | nil => intro _; exact ⟨[p], .refl _, List.pairwise_singleton _ _⟩
      | cons q qs ih =>
        intro h
        obtain ⟨a, b⟩ := List.pairwise_cons.mp h
        cases hpq : SrtO.lexB q p with
        | false =>
          refine ⟨p :: q :: qs, .refl _, List.pairwise_cons.mpr ⟨fun x hx => ?_, h⟩⟩
          rcases List.mem_cons.mp hx with e | e
          · rw [e]; exact hpq
          · have h1 := SrtO.lexB_no.mp hpq
            have h2 := SrtO.lexB_no.mp (a x e)
            exact SrtO.lexB_no.mpr (by omega)
        | true =>
          obtain ⟨rs, r1, r2⟩ := ih b
          refine ⟨q :: rs, (List.Perm.cons q r1).trans (.swap p q qs), List.pairwise_cons.mpr ⟨fun x hx => ?_, r2⟩⟩
          rcases List.mem_cons.mp (r1.mem_iff.mp hx) with e | e
          · rw [e]
            have h1 := SrtO.lexB_iff.mp hpq
            exact SrtO.lexB_no.mpr (by omega)
          · exact a x e
    obtain ⟨rs, r1, r2⟩ := key qs h2
    exact ⟨rs, r1.trans (.cons p h1), r2⟩
/-! shapes -/
theorem canLay_map {α : Type} {f : α → PyData} (h : ∀ x, (f x).canLay0 = true) : ∀ xs : List α, PyData.canLayAll0 (xs.map f) = true
  | [] => rfl
  | x :: xs => by rw [List.map_cons, PyData.canLayAll0, h x, canLay_map h xs]; rfl
theorem depth_map {α : Type} {f : α → PyData} {n : Nat} (h : ∀ x, (f x).depth ≤ n) : ∀ xs : List α, PyData.depthAll (xs.map f) ≤ n
  | [] => Nat.zero_le _
  | x :: xs => by
    have h1 := h x
    have h2 := depth_map h xs
    rw [List.map_cons, PyData.depthAll]; omega
theorem shaped_list {α : Type} {f : α → PyData} {n : Nat} (h : ∀ x, (f x).canLay0 = true) (h2 : ∀ x, (f x).depth ≤ n) (hn : n < 64) (xs : List α) : SeqAt.shaped (.list (xs.map f)) = true := by
  have a := canLay_map h xs
  have b := depth_map h2 xs
  have c : (PyData.list (xs.map f)).depth = PyData.depthAll (xs.map f) + 1 := by simp only [PyData.depth]
  have d : (PyData.list (xs.map f)).canLay0 = true := by simp only [PyData.canLay0]; exact a
  unfold SeqAt.shaped
  rw [d, c, Bool.true_and]
  exact decide_eq_true (by omega)
theorem eqv_list {α : Type} {f : α → PyData} (h : ∀ x, (f x).canLay0 = true) (xs : List α) : PyData.eqv (.list (xs.map f)) (.list (xs.map f)) = true :=
  SeqAt.eqv_refl _ (by simp only [PyData.canLay0]; exact canLay_map h xs)
theorem canLay_prD (p : Int × Int) : (prD p).canLay0 = true := by simp [prD, PyData.canLay0, PyData.canLayAll0]
theorem depth_prD (p : Int × Int) : (prD p).depth ≤ 1 := by simp [prD, PyData.depth, PyData.depthAll]
theorem canLay_int (i : Int) : (PyData.int i).canLay0 = true := by simp [PyData.canLay0]
theorem depth_int (i : Int) : (PyData.int i).depth ≤ 1 := by simp [PyData.depth]
theorem shaped_pr (a b : Int) : SeqAt.shaped (.tuple [.int a, .int b]) = true := by simp [SeqAt.shaped, PyData.canLay0, PyData.canLayAll0, PyData.depth, PyData.depthAll]
theorem shaped_rat (q : Rat) : SeqAt.shaped (ratD q) = true := shaped_pr _ _
theorem eqv_pr (a b : Int) : PyData.eqv (.tuple [.int a, .int b]) (.tuple [.int a, .int b]) = true := by simp [PyData.eqv, PyData.eqvAll]
theorem eqv_rat (q : Rat) : PyData.eqv (ratD q) (ratD q) = true := eqv_pr _ _
end Tp

namespace Mq
theorem cross {t b : Int} {q : Rat} (hb : b ≠ 0) (h : Rat.divInt t b = q) : q.num * b = t * q.den := by
  have hd : (q.den : Int) ≠ 0 := by have := q.den_pos; omega
  rw [← Rat.num_divInt_den q] at h
  have := (Rat.divInt_eq_divInt_iff hb hd).mp h
  exact this.symm
theorem lt_parts (p q : Rat) : p < q ↔ p.num * q.den - q.num * p.den < 0 := by
  rw [Rat.lt_iff]; omega
theorem cmp_apart (p q : Rat) : cmpQ p q = (if decide ((0 : Int) < p.num * q.den - q.num * p.den) = true then (1 : Int) else 0) - (if decide (p.num * q.den - q.num * p.den < 0) = true then (1 : Int) else 0) := by
  have h1 := lt_parts p q
  have h2 := lt_parts q p
  unfold cmpQ
  simp only [decide_eq_true_eq]
  generalize p.num * (q.den : Int) = x at h1 h2
  generalize q.num * (p.den : Int) = y at h1 h2
  by_cases a : p < q
  · have := h1.mp a
    rw [if_pos a, if_neg (by omega), if_pos (by omega)]; rfl
  · rw [if_neg a]
    have n1 : ¬ (x - y < 0) := fun z => a (h1.mpr z)
    by_cases b : q < p
    · have := h2.mp b
      rw [if_pos b, if_pos (by omega), if_neg n1]; rfl
    · have n2 : ¬ (y - x < 0) := fun z => b (h2.mpr z)
      rw [if_neg b, if_neg (by omega), if_neg n1]; rfl
theorem floor_parts (q : Rat) : q.floor * q.den ≤ q.num ∧ q.num < (q.floor + 1) * q.den := by
  have hd : (0 : Int) < q.den := by have := q.den_pos; omega
  rw [Rat.floor_def]
  exact ⟨Int.ediv_mul_le _ (by omega), Int.lt_ediv_add_one_mul_self _ hd⟩
theorem div_mul (p : Rat) {q : Rat} (h : q ≠ 0) : p / q * q = p := Rat.div_mul_cancel h
theorem many_eq (p : Rat) {q : Rat} (h : q ≠ 0) : (p - rem p q) / q = ((p / q).floor : Int) := by
  unfold rem
  have e : p - (p - q * (((p / q).floor : Int) : Rat)) = (((p / q).floor : Int) : Rat) * q := by
    rw [Rat.sub_eq_add_neg, Rat.sub_eq_add_neg, Rat.neg_add, Rat.neg_neg, ← Rat.add_assoc, Rat.add_neg_cancel, Rat.zero_add, Rat.mul_comm]
  rw [e, Rat.div_def, Rat.mul_assoc, Rat.mul_inv_cancel _ h, Rat.mul_one]
theorem rem_nonneg (p : Rat) {q : Rat} (h : 0 < q) : 0 ≤ rem p q := by
  unfold rem
  have h0 : q ≠ 0 := fun z => by rw [z] at h; exact absurd h (by decide)
  have h1 : (((p / q).floor : Int) : Rat) ≤ p / q := Rat.floor_le _
  have h2 := Rat.mul_le_mul_of_nonneg_left h1 (Rat.le_of_lt h)
  have h3 : q * (p / q) = p := by rw [Rat.mul_comm]; exact Rat.div_mul_cancel h0
  rw [h3] at h2
  exact Rat.le_iff_sub_nonneg _ _ |>.mp h2
theorem rem_lt (p : Rat) {q : Rat} (h : 0 < q) : rem p q < q := by
  unfold rem
  have h0 : q ≠ 0 := fun z => by rw [z] at h; exact absurd h (by decide)
  have h1 : p / q < (((p / q).floor + 1 : Int) : Rat) := Rat.lt_floor_add_one _
  have h2 := Rat.mul_lt_mul_of_pos_right h1 h
  rw [Rat.div_mul_cancel h0, Rat.intCast_add, Rat.add_mul] at h2
  rw [← Rat.not_le] at h2 ⊢
  intro z
  apply h2
  rw [Rat.le_iff_sub_nonneg] at z ⊢
  have e : p - ((((p / q).floor : Int) : Rat) * q + ((1 : Int) : Rat) * q) = p - q * (((p / q).floor : Int) : Rat) - q := by
    rw [Rat.sub_eq_add_neg, Rat.sub_eq_add_neg, Rat.sub_eq_add_neg, Rat.neg_add, ← Rat.add_assoc, Rat.mul_comm q, Rat.intCast_one, Rat.one_mul]
  rw [e]; exact z
end Mq

namespace Hd
open PySem PySem.Spec PyProof.Rows L2 Tp
def top (i : Nat) : Stmt := PySem.Challenge.pw_laprunners_k01_arithmetic.main.body.getD i (.Pass ⟨0, 0, 0, 0⟩)
abbrev s_is_integer : Stmt := top 4
def d_is_integer : He.DefD := ⟨("is_integer", none), "is_integer", "is_integer", defArgs s_is_integer, defBody s_is_integer, defScope s_is_integer, [], []⟩
abbrev s_common_divisor : Stmt := top 5
def d_common_divisor : He.DefD := ⟨("common_divisor", none), "common_divisor", "common_divisor", defArgs s_common_divisor, defBody s_common_divisor, defScope s_common_divisor, [], []⟩
abbrev s_is_ratio : Stmt := top 6
def d_is_ratio : He.DefD := ⟨("is_ratio", none), "is_ratio", "is_ratio", defArgs s_is_ratio, defBody s_is_ratio, defScope s_is_ratio, [], []⟩
abbrev s_is_number : Stmt := top 7
def d_is_number : He.DefD := ⟨("is_number", none), "is_number", "is_number", defArgs s_is_number, defBody s_is_number, defScope s_is_number, [], []⟩
abbrev s_ratio : Stmt := top 8
def d_ratio : He.DefD := ⟨("ratio", none), "ratio", "ratio", defArgs s_ratio, defBody s_ratio, defScope s_ratio, [.int 1], []⟩
abbrev s_as_ratio : Stmt := top 9
def d_as_ratio : He.DefD := ⟨("as_ratio", none), "as_ratio", "as_ratio", defArgs s_as_ratio, defBody s_as_ratio, defScope s_as_ratio, [], []⟩
abbrev s_plus : Stmt := top 10
def d_plus : He.DefD := ⟨("plus", none), "plus", "plus", defArgs s_plus, defBody s_plus, defScope s_plus, [], []⟩
abbrev s_minus : Stmt := top 11
def d_minus : He.DefD := ⟨("minus", none), "minus", "minus", defArgs s_minus, defBody s_minus, defScope s_minus, [], []⟩
abbrev s_times : Stmt := top 12
def d_times : He.DefD := ⟨("times", none), "times", "times", defArgs s_times, defBody s_times, defScope s_times, [], []⟩
abbrev s_divided : Stmt := top 13
def d_divided : He.DefD := ⟨("divided", none), "divided", "divided", defArgs s_divided, defBody s_divided, defScope s_divided, [], []⟩
abbrev s_compare : Stmt := top 14
def d_compare : He.DefD := ⟨("compare", none), "compare", "compare", defArgs s_compare, defBody s_compare, defScope s_compare, [], []⟩
abbrev s_floor_of : Stmt := top 15
def d_floor_of : He.DefD := ⟨("floor_of", none), "floor_of", "floor_of", defArgs s_floor_of, defBody s_floor_of, defScope s_floor_of, [], []⟩
abbrev s_remainder : Stmt := top 16
def d_remainder : He.DefD := ⟨("remainder", none), "remainder", "remainder", defArgs s_remainder, defBody s_remainder, defScope s_remainder, [], []⟩
abbrev s_in_order : Stmt := top 17
def d_in_order : He.DefD := ⟨("in_order", none), "in_order", "in_order", defArgs s_in_order, defBody s_in_order, defScope s_in_order, [], []⟩
abbrev s__law_pool : Stmt := top 19
def d__law_pool : He.DefD := ⟨("_law_pool", none), "_law_pool", "_law_pool", defArgs s__law_pool, defBody s__law_pool, defScope s__law_pool, [], []⟩
abbrev s__law_draw : Stmt := top 20
def d__law_draw : He.DefD := ⟨("_law_draw", none), "_law_draw", "_law_draw", defArgs s__law_draw, defBody s__law_draw, defScope s__law_draw, [], []⟩
abbrev s__law_choose : Stmt := top 21
def d__law_choose : He.DefD := ⟨("_law_choose", none), "_law_choose", "_law_choose", defArgs s__law_choose, defBody s__law_choose, defScope s__law_choose, [], []⟩
abbrev s__law_divisor : Stmt := top 22
def d__law_divisor : He.DefD := ⟨("_law_divisor", none), "_law_divisor", "_law_divisor", defArgs s__law_divisor, defBody s__law_divisor, defScope s__law_divisor, [], []⟩
abbrev s__law_integer : Stmt := top 23
def d__law_integer : He.DefD := ⟨("_law_integer", none), "_law_integer", "_law_integer", defArgs s__law_integer, defBody s__law_integer, defScope s__law_integer, [], []⟩
abbrev s__law_pair : Stmt := top 24
def d__law_pair : He.DefD := ⟨("_law_pair", none), "_law_pair", "_law_pair", defArgs s__law_pair, defBody s__law_pair, defScope s__law_pair, [], []⟩
abbrev s__law_value : Stmt := top 25
def d__law_value : He.DefD := ⟨("_law_value", none), "_law_value", "_law_value", defArgs s__law_value, defBody s__law_value, defScope s__law_value, [], []⟩
abbrev s__law_is : Stmt := top 26
def d__law_is : He.DefD := ⟨("_law_is", none), "_law_is", "_law_is", defArgs s__law_is, defBody s__law_is, defScope s__law_is, [], []⟩
abbrev s__law_sorted_right : Stmt := top 27
def d__law_sorted_right : He.DefD := ⟨("_law_sorted_right", none), "_law_sorted_right", "_law_sorted_right", defArgs s__law_sorted_right, defBody s__law_sorted_right, defScope s__law_sorted_right, [], []⟩
abbrev s_law : Stmt := top 28
def d_law : He.DefD := ⟨("law", none), "law", "law", defArgs s_law, defBody s_law, defScope s_law, [], []⟩
def fn : List He.DefD := ([d_is_integer, d_common_divisor, d_is_ratio, d_is_number, d_ratio, d_as_ratio, d_plus, d_minus, d_times, d_divided, d_compare, d_floor_of, d_remainder, d_in_order, d__law_pool, d__law_draw, d__law_choose, d__law_divisor, d__law_integer, d__law_pair, d__law_value, d__law_is, d__law_sorted_right, d_law] : List He.DefD)
def fa : List He.Fa := ([.glo "InvalidNumber", .glo "DivisionByZero", .glo "is_integer", .glo "common_divisor", .glo "is_ratio", .glo "is_number", .glo "ratio", .glo "as_ratio", .glo "plus", .glo "minus", .glo "times", .glo "divided", .glo "compare", .glo "floor_of", .glo "remainder", .glo "in_order", .glo "_law_pool", .glo "_law_draw", .glo "_law_choose", .glo "_law_divisor", .glo "_law_integer", .glo "_law_pair", .glo "_law_value", .glo "_law_is", .glo "_law_sorted_right", .glo "law", .free "ArithmeticError", .free "ValueError", .free "abs", .free "bool"] : List He.Fa) ++ ([.free "int", .free "isinstance", .free "len", .free "max", .free "min", .free "range", .free "repr", .free "set", .free "sorted", .free "tuple"] : List He.Fa)
section
variable {P : Program} {w : World} {K : PySem.W.Frag} {mg : Str → Option Value} {base h : Heap} {k : Nat} {sp : Sp}
theorem g_InvalidNumber (T : Tb fa fn K mg h) : mg "InvalidNumber" = some (.ref (He.ga K "InvalidNumber")) := T.glo "InvalidNumber" 0
theorem g_DivisionByZero (T : Tb fa fn K mg h) : mg "DivisionByZero" = some (.ref (He.ga K "DivisionByZero")) := T.glo "DivisionByZero" 1
theorem g_is_integer (T : Tb fa fn K mg h) : mg "is_integer" = some (.ref (He.ga K "is_integer")) := T.glo "is_integer" 2
theorem g_common_divisor (T : Tb fa fn K mg h) : mg "common_divisor" = some (.ref (He.ga K "common_divisor")) := T.glo "common_divisor" 3
theorem g_is_ratio (T : Tb fa fn K mg h) : mg "is_ratio" = some (.ref (He.ga K "is_ratio")) := T.glo "is_ratio" 4
theorem g_is_number (T : Tb fa fn K mg h) : mg "is_number" = some (.ref (He.ga K "is_number")) := T.glo "is_number" 5
theorem g_ratio (T : Tb fa fn K mg h) : mg "ratio" = some (.ref (He.ga K "ratio")) := T.glo "ratio" 6
theorem g_as_ratio (T : Tb fa fn K mg h) : mg "as_ratio" = some (.ref (He.ga K "as_ratio")) := T.glo "as_ratio" 7
theorem g_plus (T : Tb fa fn K mg h) : mg "plus" = some (.ref (He.ga K "plus")) := T.glo "plus" 8
theorem g_minus (T : Tb fa fn K mg h) : mg "minus" = some (.ref (He.ga K "minus")) := T.glo "minus" 9
theorem g_times (T : Tb fa fn K mg h) : mg "times" = some (.ref (He.ga K "times")) := T.glo "times" 10
theorem g_divided (T : Tb fa fn K mg h) : mg "divided" = some (.ref (He.ga K "divided")) := T.glo "divided" 11
theorem g_compare (T : Tb fa fn K mg h) : mg "compare" = some (.ref (He.ga K "compare")) := T.glo "compare" 12
theorem g_floor_of (T : Tb fa fn K mg h) : mg "floor_of" = some (.ref (He.ga K "floor_of")) := T.glo "floor_of" 13
theorem g_remainder (T : Tb fa fn K mg h) : mg "remainder" = some (.ref (He.ga K "remainder")) := T.glo "remainder" 14
theorem g_in_order (T : Tb fa fn K mg h) : mg "in_order" = some (.ref (He.ga K "in_order")) := T.glo "in_order" 15
theorem g__law_pool (T : Tb fa fn K mg h) : mg "_law_pool" = some (.ref (He.ga K "_law_pool")) := T.glo "_law_pool" 16
theorem g__law_draw (T : Tb fa fn K mg h) : mg "_law_draw" = some (.ref (He.ga K "_law_draw")) := T.glo "_law_draw" 17
theorem g__law_choose (T : Tb fa fn K mg h) : mg "_law_choose" = some (.ref (He.ga K "_law_choose")) := T.glo "_law_choose" 18
theorem g__law_divisor (T : Tb fa fn K mg h) : mg "_law_divisor" = some (.ref (He.ga K "_law_divisor")) := T.glo "_law_divisor" 19
theorem g__law_integer (T : Tb fa fn K mg h) : mg "_law_integer" = some (.ref (He.ga K "_law_integer")) := T.glo "_law_integer" 20
theorem g__law_pair (T : Tb fa fn K mg h) : mg "_law_pair" = some (.ref (He.ga K "_law_pair")) := T.glo "_law_pair" 21
theorem g__law_value (T : Tb fa fn K mg h) : mg "_law_value" = some (.ref (He.ga K "_law_value")) := T.glo "_law_value" 22
theorem g__law_is (T : Tb fa fn K mg h) : mg "_law_is" = some (.ref (He.ga K "_law_is")) := T.glo "_law_is" 23
theorem g__law_sorted_right (T : Tb fa fn K mg h) : mg "_law_sorted_right" = some (.ref (He.ga K "_law_sorted_right")) := T.glo "_law_sorted_right" 24
theorem g_law (T : Tb fa fn K mg h) : mg "law" = some (.ref (He.ga K "law")) := T.glo "law" 25
theorem b_ArithmeticError (T : Tb fa fn K mg h) : mg "ArithmeticError" = none := T.free "ArithmeticError" 26
theorem b_ValueError (T : Tb fa fn K mg h) : mg "ValueError" = none := T.free "ValueError" 27
theorem b_abs (T : Tb fa fn K mg h) : mg "abs" = none := T.free "abs" 28
theorem b_bool (T : Tb fa fn K mg h) : mg "bool" = none := T.free "bool" 29
theorem b_int (T : Tb fa fn K mg h) : mg "int" = none := T.free "int" 30
theorem b_isinstance (T : Tb fa fn K mg h) : mg "isinstance" = none := T.free "isinstance" 31
theorem b_len (T : Tb fa fn K mg h) : mg "len" = none := T.free "len" 32
theorem b_max (T : Tb fa fn K mg h) : mg "max" = none := T.free "max" 33
theorem b_min (T : Tb fa fn K mg h) : mg "min" = none := T.free "min" 34
theorem b_range (T : Tb fa fn K mg h) : mg "range" = none := T.free "range" 35
theorem b_repr (T : Tb fa fn K mg h) : mg "repr" = none := T.free "repr" 36
theorem b_set (T : Tb fa fn K mg h) : mg "set" = none := T.free "set" 37
theorem b_sorted (T : Tb fa fn K mg h) : mg "sorted" = none := T.free "sorted" 38
theorem b_tuple (T : Tb fa fn K mg h) : mg "tuple" = none := T.free "tuple" 39
theorem sc_is_integer : FnScope ["value"] ["value"] (defScope s_is_integer) := ⟨rfl, rfl, rfl, by decide +kernel, rfl, by decide +kernel, by decide +kernel⟩
theorem D_is_integer (T : Tb fa fn K mg h) (ok : ∀ fd, FunD K "is_integer" "is_integer" (defArgs s_is_integer) (defBody s_is_integer) (defScope s_is_integer) [] [] (He.ga K "is_integer") fd → FnOk P w K mg base (L2.CX P w) k (He.ga K "is_integer") fd ["value"] sp) : Def1 P w K mg base "is_integer" k ["value"] [] sp :=
  def1 T (g_is_integer T) 0 rfl rfl rfl rfl (fun _ _ _ _ _ _ us hl => match us, hl with | [_], _ => rfl) ok
theorem sc_common_divisor : FnScope ["first", "second"] ["first", "second"] (defScope s_common_divisor) := ⟨rfl, rfl, rfl, by decide +kernel, rfl, by decide +kernel, by decide +kernel⟩
theorem D_common_divisor (T : Tb fa fn K mg h) (ok : ∀ fd, FunD K "common_divisor" "common_divisor" (defArgs s_common_divisor) (defBody s_common_divisor) (defScope s_common_divisor) [] [] (He.ga K "common_divisor") fd → FnOk P w K mg base (L2.CX P w) k (He.ga K "common_divisor") fd ["first", "second"] sp) : Def1 P w K mg base "common_divisor" k ["first", "second"] [] sp :=
  def1 T (g_common_divisor T) 1 rfl rfl rfl rfl (fun _ _ _ _ _ _ us hl => match us, hl with | [_, _], _ => rfl) ok
theorem sc_is_ratio : FnScope ["value"] ["value"] (defScope s_is_ratio) := ⟨rfl, rfl, rfl, by decide +kernel, rfl, by decide +kernel, by decide +kernel⟩
theorem D_is_ratio (T : Tb fa fn K mg h) (ok : ∀ fd, FunD K "is_ratio" "is_ratio" (defArgs s_is_ratio) (defBody s_is_ratio) (defScope s_is_ratio) [] [] (He.ga K "is_ratio") fd → FnOk P w K mg base (L2.CX P w) k (He.ga K "is_ratio") fd ["value"] sp) : Def1 P w K mg base "is_ratio" k ["value"] [] sp :=
  def1 T (g_is_ratio T) 2 rfl rfl rfl rfl (fun _ _ _ _ _ _ us hl => match us, hl with | [_], _ => rfl) ok
theorem sc_is_number : FnScope ["value"] ["value"] (defScope s_is_number) := ⟨rfl, rfl, rfl, by decide +kernel, rfl, by decide +kernel, by decide +kernel⟩
theorem D_is_number (T : Tb fa fn K mg h) (ok : ∀ fd, FunD K "is_number" "is_number" (defArgs s_is_number) (defBody s_is_number) (defScope s_is_number) [] [] (He.ga K "is_number") fd → FnOk P w K mg base (L2.CX P w) k (He.ga K "is_number") fd ["value"] sp) : Def1 P w K mg base "is_number" k ["value"] [] sp :=
  def1 T (g_is_number T) 3 rfl rfl rfl rfl (fun _ _ _ _ _ _ us hl => match us, hl with | [_], _ => rfl) ok
theorem sc_ratio : FnScope ["numerator", "denominator", "common"] ["numerator", "denominator"] (defScope s_ratio) := ⟨rfl, rfl, rfl, by decide +kernel, rfl, by decide +kernel, by decide +kernel⟩
theorem D_ratio_1 (T : Tb fa fn K mg h) (ok : ∀ fd, FunD K "ratio" "ratio" (defArgs s_ratio) (defBody s_ratio) (defScope s_ratio) [V.int 1] [] (He.ga K "ratio") fd → FnOk P w K mg base (L2.CX P w) k (He.ga K "ratio") fd ["numerator", "denominator"] sp) : Def1 P w K mg base "ratio" k ["numerator", "denominator"] [V.int 1] sp :=
  def2 (dv := [V.int 1]) T (g_ratio T) 4 rfl rfl rfl rfl 1 0 (List.cons_ne_nil _ _) rfl (fun _ _ _ _ _ _ _ us its hu hi => match us, its, hu, hi with | [_], [_], _, _ => ⟨_, rfl, rfl⟩) ok
theorem D_ratio_2 (T : Tb fa fn K mg h) (ok : ∀ fd, FunD K "ratio" "ratio" (defArgs s_ratio) (defBody s_ratio) (defScope s_ratio) [V.int 1] [] (He.ga K "ratio") fd → FnOk P w K mg base (L2.CX P w) k (He.ga K "ratio") fd ["numerator", "denominator"] sp) : Def1 P w K mg base "ratio" k ["numerator", "denominator"] [] sp :=
  def2 (dv := [V.int 1]) T (g_ratio T) 4 rfl rfl rfl rfl 2 1 (List.cons_ne_nil _ _) rfl (fun _ _ _ _ _ _ _ us its hu hi => match us, its, hu, hi with | [_, _], [_], _, _ => ⟨_, rfl, rfl⟩) ok
theorem sc_as_ratio : FnScope ["value"] ["value"] (defScope s_as_ratio) := ⟨rfl, rfl, rfl, by decide +kernel, rfl, by decide +kernel, by decide +kernel⟩
theorem D_as_ratio (T : Tb fa fn K mg h) (ok : ∀ fd, FunD K "as_ratio" "as_ratio" (defArgs s_as_ratio) (defBody s_as_ratio) (defScope s_as_ratio) [] [] (He.ga K "as_ratio") fd → FnOk P w K mg base (L2.CX P w) k (He.ga K "as_ratio") fd ["value"] sp) : Def1 P w K mg base "as_ratio" k ["value"] [] sp :=
  def1 T (g_as_ratio T) 5 rfl rfl rfl rfl (fun _ _ _ _ _ _ us hl => match us, hl with | [_], _ => rfl) ok
theorem sc_plus : FnScope ["first", "second", "one", "two"] ["first", "second"] (defScope s_plus) := ⟨rfl, rfl, rfl, by decide +kernel, rfl, by decide +kernel, by decide +kernel⟩
theorem D_plus (T : Tb fa fn K mg h) (ok : ∀ fd, FunD K "plus" "plus" (defArgs s_plus) (defBody s_plus) (defScope s_plus) [] [] (He.ga K "plus") fd → FnOk P w K mg base (L2.CX P w) k (He.ga K "plus") fd ["first", "second"] sp) : Def1 P w K mg base "plus" k ["first", "second"] [] sp :=
  def1 T (g_plus T) 6 rfl rfl rfl rfl (fun _ _ _ _ _ _ us hl => match us, hl with | [_, _], _ => rfl) ok
theorem sc_minus : FnScope ["first", "second", "one", "two"] ["first", "second"] (defScope s_minus) := ⟨rfl, rfl, rfl, by decide +kernel, rfl, by decide +kernel, by decide +kernel⟩
theorem D_minus (T : Tb fa fn K mg h) (ok : ∀ fd, FunD K "minus" "minus" (defArgs s_minus) (defBody s_minus) (defScope s_minus) [] [] (He.ga K "minus") fd → FnOk P w K mg base (L2.CX P w) k (He.ga K "minus") fd ["first", "second"] sp) : Def1 P w K mg base "minus" k ["first", "second"] [] sp :=
  def1 T (g_minus T) 7 rfl rfl rfl rfl (fun _ _ _ _ _ _ us hl => match us, hl with | [_, _], _ => rfl) ok
theorem sc_times : FnScope ["first", "second", "one", "two"] ["first", "second"] (defScope s_times) := ⟨rfl, rfl, rfl, by decide +kernel, rfl, by decide +kernel, by decide +kernel⟩
theorem D_times (T : Tb fa fn K mg h) (ok : ∀ fd, FunD K "times" "times" (defArgs s_times) (defBody s_times) (defScope s_times) [] [] (He.ga K "times") fd → FnOk P w K mg base (L2.CX P w) k (He.ga K "times") fd ["first", "second"] sp) : Def1 P w K mg base "times" k ["first", "second"] [] sp :=
  def1 T (g_times T) 8 rfl rfl rfl rfl (fun _ _ _ _ _ _ us hl => match us, hl with | [_, _], _ => rfl) ok
theorem sc_divided : FnScope ["first", "second", "one", "two"] ["first", "second"] (defScope s_divided) := ⟨rfl, rfl, rfl, by decide +kernel, rfl, by decide +kernel, by decide +kernel⟩
theorem D_divided (T : Tb fa fn K mg h) (ok : ∀ fd, FunD K "divided" "divided" (defArgs s_divided) (defBody s_divided) (defScope s_divided) [] [] (He.ga K "divided") fd → FnOk P w K mg base (L2.CX P w) k (He.ga K "divided") fd ["first", "second"] sp) : Def1 P w K mg base "divided" k ["first", "second"] [] sp :=
  def1 T (g_divided T) 9 rfl rfl rfl rfl (fun _ _ _ _ _ _ us hl => match us, hl with | [_, _], _ => rfl) ok
theorem sc_compare : FnScope ["first", "second", "apart"] ["first", "second"] (defScope s_compare) := ⟨rfl, rfl, rfl, by decide +kernel, rfl, by decide +kernel, by decide +kernel⟩
theorem D_compare (T : Tb fa fn K mg h) (ok : ∀ fd, FunD K "compare" "compare" (defArgs s_compare) (defBody s_compare) (defScope s_compare) [] [] (He.ga K "compare") fd → FnOk P w K mg base (L2.CX P w) k (He.ga K "compare") fd ["first", "second"] sp) : Def1 P w K mg base "compare" k ["first", "second"] [] sp :=
  def1 T (g_compare T) 10 rfl rfl rfl rfl (fun _ _ _ _ _ _ us hl => match us, hl with | [_, _], _ => rfl) ok
theorem sc_floor_of : FnScope ["value", "one"] ["value"] (defScope s_floor_of) := ⟨rfl, rfl, rfl, by decide +kernel, rfl, by decide +kernel, by decide +kernel⟩
theorem D_floor_of (T : Tb fa fn K mg h) (ok : ∀ fd, FunD K "floor_of" "floor_of" (defArgs s_floor_of) (defBody s_floor_of) (defScope s_floor_of) [] [] (He.ga K "floor_of") fd → FnOk P w K mg base (L2.CX P w) k (He.ga K "floor_of") fd ["value"] sp) : Def1 P w K mg base "floor_of" k ["value"] [] sp :=
  def1 T (g_floor_of T) 11 rfl rfl rfl rfl (fun _ _ _ _ _ _ us hl => match us, hl with | [_], _ => rfl) ok
theorem sc_remainder : FnScope ["value", "modulus", "one", "two"] ["value", "modulus"] (defScope s_remainder) := ⟨rfl, rfl, rfl, by decide +kernel, rfl, by decide +kernel, by decide +kernel⟩
theorem D_remainder (T : Tb fa fn K mg h) (ok : ∀ fd, FunD K "remainder" "remainder" (defArgs s_remainder) (defBody s_remainder) (defScope s_remainder) [] [] (He.ga K "remainder") fd → FnOk P w K mg base (L2.CX P w) k (He.ga K "remainder") fd ["value", "modulus"] sp) : Def1 P w K mg base "remainder" k ["value", "modulus"] [] sp :=
  def1 T (g_remainder T) 12 rfl rfl rfl rfl (fun _ _ _ _ _ _ us hl => match us, hl with | [_, _], _ => rfl) ok
theorem sc_in_order : FnScope ["values", "ratios", "value", "common", "one", "whole"] ["values"] (defScope s_in_order) := ⟨rfl, rfl, rfl, by decide +kernel, rfl, by decide +kernel, by decide +kernel⟩
theorem D_in_order (T : Tb fa fn K mg h) (ok : ∀ fd, FunD K "in_order" "in_order" (defArgs s_in_order) (defBody s_in_order) (defScope s_in_order) [] [] (He.ga K "in_order") fd → FnOk P w K mg base (L2.CX P w) k (He.ga K "in_order") fd ["values"] sp) : Def1 P w K mg base "in_order" k ["values"] [] sp :=
  def1 T (g_in_order T) 13 rfl rfl rfl rfl (fun _ _ _ _ _ _ us hl => match us, hl with | [_], _ => rfl) ok
theorem sc__law_pool : FnScope ["script", "k", "cell", "seed"] ["script", "k"] (defScope s__law_pool) := ⟨rfl, rfl, rfl, by decide +kernel, rfl, by decide +kernel, by decide +kernel⟩
theorem D__law_pool (T : Tb fa fn K mg h) (ok : ∀ fd, FunD K "_law_pool" "_law_pool" (defArgs s__law_pool) (defBody s__law_pool) (defScope s__law_pool) [] [] (He.ga K "_law_pool") fd → FnOk P w K mg base (L2.CX P w) k (He.ga K "_law_pool") fd ["script", "k"] sp) : Def1 P w K mg base "_law_pool" k ["script", "k"] [] sp :=
  def1 T (g__law_pool T) 14 rfl rfl rfl rfl (fun _ _ _ _ _ _ us hl => match us, hl with | [_, _], _ => rfl) ok
theorem sc__law_draw : FnScope ["pool", "many", "digit"] ["pool", "many"] (defScope s__law_draw) := ⟨rfl, rfl, rfl, by decide +kernel, rfl, by decide +kernel, by decide +kernel⟩
theorem D__law_draw (T : Tb fa fn K mg h) (ok : ∀ fd, FunD K "_law_draw" "_law_draw" (defArgs s__law_draw) (defBody s__law_draw) (defScope s__law_draw) [] [] (He.ga K "_law_draw") fd → FnOk P w K mg base (L2.CX P w) k (He.ga K "_law_draw") fd ["pool", "many"] sp) : Def1 P w K mg base "_law_draw" k ["pool", "many"] [] sp :=
  def1 T (g__law_draw T) 15 rfl rfl rfl rfl (fun _ _ _ _ _ _ us hl => match us, hl with | [_, _], _ => rfl) ok
theorem sc__law_choose : FnScope ["pool", "items"] ["pool", "items"] (defScope s__law_choose) := ⟨rfl, rfl, rfl, by decide +kernel, rfl, by decide +kernel, by decide +kernel⟩
theorem D__law_choose (T : Tb fa fn K mg h) (ok : ∀ fd, FunD K "_law_choose" "_law_choose" (defArgs s__law_choose) (defBody s__law_choose) (defScope s__law_choose) [] [] (He.ga K "_law_choose") fd → FnOk P w K mg base (L2.CX P w) k (He.ga K "_law_choose") fd ["pool", "items"] sp) : Def1 P w K mg base "_law_choose" k ["pool", "items"] [] sp :=
  def1 T (g__law_choose T) 16 rfl rfl rfl rfl (fun _ _ _ _ _ _ us hl => match us, hl with | [_, _], _ => rfl) ok
theorem sc__law_divisor : FnScope ["one", "two"] ["one", "two"] (defScope s__law_divisor) := ⟨rfl, rfl, rfl, by decide +kernel, rfl, by decide +kernel, by decide +kernel⟩
theorem D__law_divisor (T : Tb fa fn K mg h) (ok : ∀ fd, FunD K "_law_divisor" "_law_divisor" (defArgs s__law_divisor) (defBody s__law_divisor) (defScope s__law_divisor) [] [] (He.ga K "_law_divisor") fd → FnOk P w K mg base (L2.CX P w) k (He.ga K "_law_divisor") fd ["one", "two"] sp) : Def1 P w K mg base "_law_divisor" k ["one", "two"] [] sp :=
  def1 T (g__law_divisor T) 17 rfl rfl rfl rfl (fun _ _ _ _ _ _ us hl => match us, hl with | [_, _], _ => rfl) ok
theorem sc__law_integer : FnScope ["pool", "value"] ["pool"] (defScope s__law_integer) := ⟨rfl, rfl, rfl, by decide +kernel, rfl, by decide +kernel, by decide +kernel⟩
theorem D__law_integer (T : Tb fa fn K mg h) (ok : ∀ fd, FunD K "_law_integer" "_law_integer" (defArgs s__law_integer) (defBody s__law_integer) (defScope s__law_integer) [] [] (He.ga K "_law_integer") fd → FnOk P w K mg base (L2.CX P w) k (He.ga K "_law_integer") fd ["pool"] sp) : Def1 P w K mg base "_law_integer" k ["pool"] [] sp :=
  def1 T (g__law_integer T) 18 rfl rfl rfl rfl (fun _ _ _ _ _ _ us hl => match us, hl with | [_], _ => rfl) ok
theorem sc__law_pair : FnScope ["pool", "top", "bottom", "common"] ["pool"] (defScope s__law_pair) := ⟨rfl, rfl, rfl, by decide +kernel, rfl, by decide +kernel, by decide +kernel⟩
theorem D__law_pair (T : Tb fa fn K mg h) (ok : ∀ fd, FunD K "_law_pair" "_law_pair" (defArgs s__law_pair) (defBody s__law_pair) (defScope s__law_pair) [] [] (He.ga K "_law_pair") fd → FnOk P w K mg base (L2.CX P w) k (He.ga K "_law_pair") fd ["pool"] sp) : Def1 P w K mg base "_law_pair" k ["pool"] [] sp :=
  def1 T (g__law_pair T) 19 rfl rfl rfl rfl (fun _ _ _ _ _ _ us hl => match us, hl with | [_], _ => rfl) ok
theorem sc__law_value : FnScope ["pool", "pair"] ["pool", "pair"] (defScope s__law_value) := ⟨rfl, rfl, rfl, by decide +kernel, rfl, by decide +kernel, by decide +kernel⟩
theorem D__law_value (T : Tb fa fn K mg h) (ok : ∀ fd, FunD K "_law_value" "_law_value" (defArgs s__law_value) (defBody s__law_value) (defScope s__law_value) [] [] (He.ga K "_law_value") fd → FnOk P w K mg base (L2.CX P w) k (He.ga K "_law_value") fd ["pool", "pair"] sp) : Def1 P w K mg base "_law_value" k ["pool", "pair"] [] sp :=
  def1 T (g__law_value T) 20 rfl rfl rfl rfl (fun _ _ _ _ _ _ us hl => match us, hl with | [_, _], _ => rfl) ok
theorem sc__law_is : FnScope ["found", "top", "bottom"] ["found", "top", "bottom"] (defScope s__law_is) := ⟨rfl, rfl, rfl, by decide +kernel, rfl, by decide +kernel, by decide +kernel⟩
theorem D__law_is (T : Tb fa fn K mg h) (ok : ∀ fd, FunD K "_law_is" "_law_is" (defArgs s__law_is) (defBody s__law_is) (defScope s__law_is) [] [] (He.ga K "_law_is") fd → FnOk P w K mg base (L2.CX P w) k (He.ga K "_law_is") fd ["found", "top", "bottom"] sp) : Def1 P w K mg base "_law_is" k ["found", "top", "bottom"] [] sp :=
  def1 T (g__law_is T) 21 rfl rfl rfl rfl (fun _ _ _ _ _ _ us hl => match us, hl with | [_, _, _], _ => rfl) ok
theorem sc__law_sorted_right : FnScope ["a", "b", "c", "given", "shown", "rows", "at"] ["a", "b", "c"] (defScope s__law_sorted_right) := ⟨rfl, rfl, rfl, by decide +kernel, rfl, by decide +kernel, by decide +kernel⟩
theorem D__law_sorted_right (T : Tb fa fn K mg h) (ok : ∀ fd, FunD K "_law_sorted_right" "_law_sorted_right" (defArgs s__law_sorted_right) (defBody s__law_sorted_right) (defScope s__law_sorted_right) [] [] (He.ga K "_law_sorted_right") fd → FnOk P w K mg base (L2.CX P w) k (He.ga K "_law_sorted_right") fd ["a", "b", "c"] sp) : Def1 P w K mg base "_law_sorted_right" k ["a", "b", "c"] [] sp :=
  def1 T (g__law_sorted_right T) 22 rfl rfl rfl rfl (fun _ _ _ _ _ _ us hl => match us, hl with | [_, _, _], _ => rfl) ok
theorem DG__law_sorted_right (T : Tb fa fn K mg h) (ok : ∀ fd, FunD K "_law_sorted_right" "_law_sorted_right" (defArgs s__law_sorted_right) (defBody s__law_sorted_right) (defScope s__law_sorted_right) [] [] (He.ga K "_law_sorted_right") fd → FnG P w K mg base (L2.CX P w) k (He.ga K "_law_sorted_right") fd ["a", "b", "c"] sp) : DefG P w K mg base "_law_sorted_right" k ["a", "b", "c"] [] sp :=
  defg T (g__law_sorted_right T) 22 rfl rfl rfl rfl (fun _ _ _ _ _ _ us hl => match us, hl with | [_, _, _], _ => rfl) ok
theorem sc_law : FnScope ["script", "k", "pool", "one", "two", "three", "a", "b", "c", "sign", "bottom", "apart", "whole", "rest", "many"] ["script"] (defScope s_law) := ⟨rfl, rfl, rfl, by decide +kernel, rfl, by decide +kernel, by decide +kernel⟩
theorem D_law (T : Tb fa fn K mg h) (ok : ∀ fd, FunD K "law" "law" (defArgs s_law) (defBody s_law) (defScope s_law) [] [] (He.ga K "law") fd → FnOk P w K mg base (L2.CX P w) k (He.ga K "law") fd ["script"] sp) : Def1 P w K mg base "law" k ["script"] [] sp :=
  def1 T (g_law T) 23 rfl rfl rfl rfl (fun _ _ _ _ _ _ us hl => match us, hl with | [_], _ => rfl) ok
theorem DG_law (T : Tb fa fn K mg h) (ok : ∀ fd, FunD K "law" "law" (defArgs s_law) (defBody s_law) (defScope s_law) [] [] (He.ga K "law") fd → FnG P w K mg base (L2.CX P w) k (He.ga K "law") fd ["script"] sp) : DefG P w K mg base "law" k ["script"] [] sp :=
  defg T (g_law T) 23 rfl rfl rfl rfl (fun _ _ _ _ _ _ us hl => match us, hl with | [_], _ => rfl) ok
end
end Hd

namespace Hd
open PySem PySem.Spec PyProof.Rows L2 Tp Mq
local macro_rules | `(tactic| walk_at "sub") => `(tactic| repeat' (first | exact SubL.nil | refine' SubL.same ?_ | refine' SubL.cons nm_rat ?_ | refine' SubL.cons nm_int ?_ | refine' SubL.cons (nm_of (by assumption)) ?_ | refine' SubL.dfl (fun _ => .int _) ?_ | refine' SubL.cons (fun _ _ h => h) ?_))
local macro_rules | `(tactic| walk_at "ix") => `(tactic| first | exact IxOk.tup rfl | exact IxOk.lst rfl | exact IxOk.own (by first | assumption | exact List.mem_cons_self) rfl | exact IxOk.scrD (by constructor <;> omega) | exact IxOk.lstI (by constructor <;> omega) | exact IxOk.lstR (by constructor <;> omega) | refine' IxOk.scrD ?_ | refine' IxOk.lstI ?_ | refine' IxOk.lstR ?_ | refine' IxOk.lstD ?_ | refine' IxOk.tupD ?_)
local macro_rules | `(tactic| walk_at "ln") => `(tactic| first | exact LenOk.tup | exact LenOk.lst | exact LenOk.scr | exact LenOk.own (by first | assumption | exact List.mem_cons_self) | refine' LenOk.str ?_)
local macro_rules | `(tactic| walk_at "side") => `(tactic| first | assumption | decide | omega)
local macro_rules | `(tactic| walk_at "subc") => `(tactic| repeat' (first | exact Sub.nil | refine Sub.keep ?_ | refine Sub.forget ?_ | refine Sub.weak (fun _ _ h => h) ?_))
section
variable {P : Program} {w : World} {K : PySem.W.Frag} {mg : Str → Option Value} {base h : Heap}
theorem ok_is_integer (T : Tb fa fn K mg h) {d : PyData} : Def1 P w K mg base "is_integer" 1 ["value"] [] (SpV [Dv d] [] [] (Bo (isID d))) :=
  D_is_integer T fun fd F => fn_v F sc_is_integer rfl fun cdv A outer s H E F0 hr => by
    refine' hb_stop (hs_ret (he_is ?h6 ?q5))
    case' h6 => refine' he_and ?h7 (fun hb9 => ?h8) (fun _ => rfl)
    case' h7 => refine' he_isT (b_isinstance T) (b_int T) PyProof.Rows.boot_int ?h10 (kit_int _)
    first | (case' h10 => exact he_var 0) | (case' h7 => exact he_var 0)
    case' h8 => refine' he_one ?h11
    first | (case' h11 => refine' he_not ?h12) | (case' h8 => refine' he_not ?h12)
    first | (case' h12 => refine' he_isT (b_isinstance T) (b_bool T) PyProof.Rows.boot_bool ?h13 (kit_bool _)) | (case' h11 => refine' he_isT (b_isinstance T) (b_bool T) PyProof.Rows.boot_bool ?h13 (kit_bool _)) | (case' h8 => refine' he_isT (b_isinstance T) (b_bool T) PyProof.Rows.boot_bool ?h13 (kit_bool _))
    first | (case' h13 => exact he_var 0) | (case' h12 => exact he_var 0) | (case' h11 => exact he_var 0) | (case' h8 => exact he_var 0)
    cases d <;> rfl
theorem ok_common_divisor (T : Tb fa fn K mg h) {i j : Int} : Def1 P w K mg base "common_divisor" 1 ["first", "second"] [] (SpV [In i, In j] [] [] (In (Int.gcd i j : Int))) :=
  D_common_divisor T fun fd F => fn_v F sc_common_divisor rfl fun cdv A outer s H E F0 hr =>
    hb_while (ι := { p : Int × Int // Int.gcd p.1 p.2 = Int.gcd i j }) (fun p => [some (In p.1.1), some (In p.1.2)]) (fun _ => []) (fun p => p.1.2.natAbs) ⟨(i, j), rfl⟩ .never (Sub.refl _) rfl (fun p => by
      obtain ⟨⟨a, b⟩, hg⟩ := p
      by_cases hb : b = 0
      · refine .inl ⟨(ht_is (ht_ne (he_var 1) he_int) (by simp [hb])), hb_stop (hs_ret ((he_is (he_abs (b_abs T) (ha_cons (he_var 0) ha_nil)) ?_)))⟩
        show PyData.int ((a.natAbs : Nat) : Int) = _
        have hg2 : Int.gcd a b = Int.gcd i j := hg
        rw [← hg2, hb, Int.gcd_zero_right]
      · refine .inr ⟨(ht_is (ht_ne (he_var 1) he_int) (by simp [hb])), ⟨(b, a.fmod b), (gcd_step a b).trans hg⟩, fmod_abs a hb, ?_⟩
        exact hb_cons (hs_par 0 1 rfl sc_common_divisor.nd (ha_cons (he_var 1) (ha_cons (he_modG (he_var 0) (he_var 1) hb) ha_nil))) hb_nil)
/-- a ratio is one -/
theorem ok_is_ratio (T : Tb fa fn K mg h) {q : Rat} : Def1 P w K mg base "is_ratio" 3 ["value"] [] (SpV [Rt q] [] [] (Bo true)) :=
  D_is_ratio T fun fd F => fn_v F sc_is_ratio rfl fun cdv A outer s H E F0 hr => by
    refine' hb_ifF ?h25 ?q24 ?k23
    case' h25 => refine' ht_w ?h26
    first | (case' h26 => refine' ht_or ?h27 (fun hb29 => ?h28) (fun _ => rfl)) | (case' h25 => refine' ht_or ?h27 (fun hb29 => ?h28) (fun _ => rfl))
    case' h27 => refine' ht_not ?h30
    first | (case' h30 => refine' ht_val ?h31) | (case' h27 => refine' ht_val ?h31)
    first | (case' h31 => refine' he_isT (b_isinstance T) (b_tuple T) PyProof.Rows.boot_tuple ?h32 (kit_tuple _)) | (case' h30 => refine' he_isT (b_isinstance T) (b_tuple T) PyProof.Rows.boot_tuple ?h32 (kit_tuple _)) | (case' h27 => refine' he_isT (b_isinstance T) (b_tuple T) PyProof.Rows.boot_tuple ?h32 (kit_tuple _))
    first | (case' h32 => exact he_var 0) | (case' h31 => exact he_var 0) | (case' h30 => exact he_var 0) | (case' h27 => exact he_var 0)
    case' h28 => refine' ht_or ?h33 (fun hb35 => ?h34) (fun _ => rfl)
    case' h33 => refine' ht_ne ?h36 ?h37
    case' h36 => refine' he_len (b_len T) ?h38 ?h39
    case' h38 => exact he_var 0
    case' h39 => walk_at "ln"
    case' h37 => exact he_int
    case' h34 => refine' ht_or ?h40 (fun hb42 => ?h41) (fun _ => rfl)
    case' h40 => refine' ht_not ?h43
    first | (case' h43 => refine' ht_val ?h44) | (case' h40 => refine' ht_val ?h44)
    first | (case' h44 => refine' he_cp ?h45 ?h46 ?h47 ?h48) | (case' h43 => refine' he_cp ?h45 ?h46 ?h47 ?h48) | (case' h40 => refine' he_cp ?h45 ?h46 ?h47 ?h48)
    case' h45 => refine' ha_cons ?h49 ?h50
    case' h49 => refine' he_ix ?h51 ?h52 ?h53
    case' h51 => exact he_var 0
    case' h52 => exact he_int
    case' h53 => walk_at "ix"
    case' h50 => exact ha_nil
    case' h47 => refine' ok_is_integer T
    case' h46 => walk_at "sub"
    case' h48 => exact hr.mono (by decide)
    case' h41 => refine' hw_or1 ?h54
    first | (case' h54 => refine' ht_not ?h55) | (case' h41 => refine' ht_not ?h55)
    first | (case' h55 => refine' ht_val ?h56) | (case' h54 => refine' ht_val ?h56) | (case' h41 => refine' ht_val ?h56)
    first | (case' h56 => refine' he_cp ?h57 ?h58 ?h59 ?h60) | (case' h55 => refine' he_cp ?h57 ?h58 ?h59 ?h60) | (case' h54 => refine' he_cp ?h57 ?h58 ?h59 ?h60) | (case' h41 => refine' he_cp ?h57 ?h58 ?h59 ?h60)
    case' h57 => refine' ha_cons ?h61 ?h62
    case' h61 => refine' he_ix ?h63 ?h64 ?h65
    case' h63 => exact he_var 0
    case' h64 => exact he_int
    case' h65 => walk_at "ix"
    case' h62 => exact ha_nil
    case' h59 => refine' ok_is_integer T
    case' h58 => walk_at "sub"
    case' h60 => exact hr.mono (by decide)
    · rfl
    refine' hb_stop (hs_ret (he_is ?h68 ?q67))
    case' h68 => refine' he_and ?h69 (fun hb71 => ?h70) (fun _ => rfl)
    case' h69 => refine' he_ge ?h72 ?h73
    case' h72 => refine' he_ix ?h74 ?h75 ?h76
    case' h74 => exact he_var 0
    case' h75 => exact he_int
    case' h76 => walk_at "ix"
    case' h73 => exact he_int
    case' h70 => refine' he_one ?h77
    first | (case' h77 => refine' he_eq ?h78 ?h79) | (case' h70 => refine' he_eq ?h78 ?h79)
    case' h78 => refine' he_cp ?h80 ?h81 ?h82 ?h83
    case' h80 => refine' ha_cons ?h84 ?h85
    case' h84 => refine' he_ix ?h86 ?h87 ?h88
    case' h86 => exact he_var 0
    case' h87 => exact he_int
    case' h88 => walk_at "ix"
    case' h85 => refine' ha_cons ?h89 ?h90
    case' h89 => refine' he_ix ?h91 ?h92 ?h93
    case' h91 => exact he_var 0
    case' h92 => exact he_int
    case' h93 => walk_at "ix"
    case' h90 => exact ha_nil
    case' h82 => refine' ok_common_divisor T
    case' h81 => walk_at "sub"
    case' h83 => exact hr.mono (by decide)
    case' h79 => exact he_int
    have := q.den_pos
    have e : Int.gcd q.num q.den = 1 := q.reduced
    simp [e]; omega
theorem ok_is_number (T : Tb fa fn K mg h) {q : Rat} : Def1 P w K mg base "is_number" 5 ["value"] [] (SpV [Nm q] [] [] (Bo true)) :=
  D_is_number T fun fd F => fn_v F sc_is_number rfl fun cdv A outer s H E F0 hr => by
    refine HB.nm 0 rfl (fun hd => ?_) ?_
    · refine' hb_stop (hs_ret (he_is ?h102 ?q101))
      case' h102 => refine' he_orT ?h103 ?z104
      case' h103 => refine' he_cp ?h105 ?h106 ?h107 ?h108
      case' h105 => refine' ha_cons ?h109 ?h110
      case' h109 => exact he_var 0
      case' h110 => exact ha_nil
      case' h107 => refine' ok_is_integer T
      case' h106 => walk_at "sub"
      case' h108 => exact hr.mono (by decide)
      case' z104 => try walk_at "side"
      all_goals rfl
    · refine' hb_stop (hs_ret (he_is ?h113 ?q112))
      case' h113 => refine' he_or ?h114 (fun hb116 => ?h115) (fun _ => rfl)
      case' h114 => refine' he_cp ?h117 ?h118 ?h119 ?h120
      case' h117 => refine' ha_cons ?h121 ?h122
      case' h121 => exact he_var 0
      case' h122 => exact ha_nil
      case' h119 => refine' ok_is_integer T
      case' h118 => walk_at "sub"
      case' h120 => exact hr.mono (by decide)
      case' h115 => refine' he_one ?h123
      first | (case' h123 => refine' he_cp ?h124 ?h125 ?h126 ?h127) | (case' h115 => refine' he_cp ?h124 ?h125 ?h126 ?h127)
      case' h124 => refine' ha_cons ?h128 ?h129
      case' h128 => exact he_var 0
      case' h129 => exact ha_nil
      case' h126 => refine' ok_is_ratio T
      case' h125 => walk_at "sub"
      case' h127 => exact hr.mono (by decide)
      all_goals rfl
theorem ok_ratio (T : Tb fa fn K mg h) {i j : Int} (hj : j ≠ 0) (hs : Sm j) : Def1 P w K mg base "ratio" 3 ["numerator", "denominator"] [] (SpV [In i, In j] [] [] (Rt (Rat.divInt i j))) :=
  D_ratio_2 T fun fd F => fn_v F sc_ratio rfl fun cdv A outer s H E F0 hr => by
    refine' hb_ifF ?h138 ?q137 ?k136
    case' h138 => refine' ht_w ?h139
    first | (case' h139 => refine' ht_or ?h140 (fun hb142 => ?h141) (fun _ => rfl)) | (case' h138 => refine' ht_or ?h140 (fun hb142 => ?h141) (fun _ => rfl))
    case' h140 => refine' ht_not ?h143
    first | (case' h143 => refine' ht_val ?h144) | (case' h140 => refine' ht_val ?h144)
    first | (case' h144 => refine' he_cp ?h145 ?h146 ?h147 ?h148) | (case' h143 => refine' he_cp ?h145 ?h146 ?h147 ?h148) | (case' h140 => refine' he_cp ?h145 ?h146 ?h147 ?h148)
    case' h145 => refine' ha_cons ?h149 ?h150
    case' h149 => exact he_var 0
    case' h150 => exact ha_nil
    case' h147 => refine' ok_is_integer T
    case' h146 => walk_at "sub"
    case' h148 => exact hr.mono (by decide)
    case' h141 => refine' hw_or1 ?h151
    first | (case' h151 => refine' ht_not ?h152) | (case' h141 => refine' ht_not ?h152)
    first | (case' h152 => refine' ht_val ?h153) | (case' h151 => refine' ht_val ?h153) | (case' h141 => refine' ht_val ?h153)
    first | (case' h153 => refine' he_cp ?h154 ?h155 ?h156 ?h157) | (case' h152 => refine' he_cp ?h154 ?h155 ?h156 ?h157) | (case' h151 => refine' he_cp ?h154 ?h155 ?h156 ?h157) | (case' h141 => refine' he_cp ?h154 ?h155 ?h156 ?h157)
    case' h154 => refine' ha_cons ?h158 ?h159
    case' h158 => exact he_var 1
    case' h159 => exact ha_nil
    case' h156 => refine' ok_is_integer T
    case' h155 => walk_at "sub"
    case' h157 => exact hr.mono (by decide)
    · rfl
    refine' hb_ifF ?h162 ?q161 ?k160
    case' h162 => refine' ht_eq ?h163 ?h164
    case' h163 => exact he_var 1
    case' h164 => exact he_int
    · simp [hj]
    refine' hb_cons (hs_set 2 sc_ratio.nd ?h167) ?k165
    case' h167 => refine' he_mulS ?h168 ?h169 ?z170
    case' h168 => refine' he_cp ?h171 ?h172 ?h173 ?h174
    case' h171 => refine' ha_cons ?h175 ?h176
    case' h175 => exact he_var 0
    case' h176 => refine' ha_cons ?h177 ?h178
    case' h177 => exact he_var 1
    case' h178 => exact ha_nil
    case' h173 => refine' ok_common_divisor T
    case' h172 => walk_at "sub"
    case' h174 => exact hr.mono (by decide)
    case' h169 => refine' he_ifI ?h179 (fun hb => ?h180) (fun hb => ?h181)
    case' h179 => refine' ht_gt ?h182 ?h183
    case' h182 => exact he_var 1
    case' h183 => exact he_int
    case' h180 => exact he_int
    case' h181 => refine' he_neg ?h184
    first | (case' h184 => exact he_int) | (case' h181 => exact he_int)
    case' z170 => try walk_at "side"
    · exact .inr (by split <;> decide)
    have hS : (if decide (0 < j) = true then (1 : Int) else -1) = 1 ∨ (if decide (0 < j) = true then (1 : Int) else -1) = -1 := by split <;> simp
    generalize hsg : (if decide (0 < j) = true then (1 : Int) else -1) = sg at hS
    have hsg2 : sg = if j > 0 then 1 else -1 := by
      rw [← hsg]; by_cases h0 : 0 < j <;> simp [h0]
    have hcd := (gcd_sm (i := i) hj hs hS).log (gcd_ne hj hS)
    refine' hb_stop (hs_ret (he_is ?h187 ?q186))
    case' h187 => refine' he_tup ?h188 ?h189
    case' h188 => refine' had_cons ?h190 ?h191
    case' h190 => refine' he_fdivG ?h192 ?h193 ?z194
    case' h192 => exact he_var 0
    case' h193 => exact he_var 2
    case' h191 => refine' had_cons ?h195 ?h196
    case' h195 => refine' he_fdivG ?h197 ?h198 ?z199
    case' h197 => exact he_var 1
    case' h198 => exact he_var 2
    case' h196 => exact had_nil
    case' h189 => exact Nat.le_of_ble_eq_true rfl
    case' z199 => try walk_at "side"
    case' z194 => try walk_at "side"
    try (first | (case' z199 => walk_at "side"))
    try (first | (case' z194 => walk_at "side"))
    · exact ⟨gcd_ne hj hS, hcd⟩
    · exact ⟨gcd_ne hj hS, hcd⟩
    have := ratio_parts i j hj sg hsg2
    rw [this.1, this.2]; rfl
theorem ok_ratio1 (T : Tb fa fn K mg h) {i : Int} : Def1 P w K mg base "ratio" 3 ["numerator", "denominator"] [.int 1] (SpV [In i, In 1] [] [] (Rt (i : Rat))) :=
  D_ratio_1 T fun fd F => fn_v F sc_ratio rfl fun cdv A outer s H E F0 hr => by
    refine' hb_ifF ?h208 ?q207 ?k206
    case' h208 => refine' ht_w ?h209
    first | (case' h209 => refine' ht_or ?h210 (fun hb212 => ?h211) (fun _ => rfl)) | (case' h208 => refine' ht_or ?h210 (fun hb212 => ?h211) (fun _ => rfl))
    case' h210 => refine' ht_not ?h213
    first | (case' h213 => refine' ht_val ?h214) | (case' h210 => refine' ht_val ?h214)
    first | (case' h214 => refine' he_cp ?h215 ?h216 ?h217 ?h218) | (case' h213 => refine' he_cp ?h215 ?h216 ?h217 ?h218) | (case' h210 => refine' he_cp ?h215 ?h216 ?h217 ?h218)
    case' h215 => refine' ha_cons ?h219 ?h220
    case' h219 => exact he_var 0
    case' h220 => exact ha_nil
    case' h217 => refine' ok_is_integer T
    case' h216 => walk_at "sub"
    case' h218 => exact hr.mono (by decide)
    case' h211 => refine' hw_or1 ?h221
    first | (case' h221 => refine' ht_not ?h222) | (case' h211 => refine' ht_not ?h222)
    first | (case' h222 => refine' ht_val ?h223) | (case' h221 => refine' ht_val ?h223) | (case' h211 => refine' ht_val ?h223)
    first | (case' h223 => refine' he_cp ?h224 ?h225 ?h226 ?h227) | (case' h222 => refine' he_cp ?h224 ?h225 ?h226 ?h227) | (case' h221 => refine' he_cp ?h224 ?h225 ?h226 ?h227) | (case' h211 => refine' he_cp ?h224 ?h225 ?h226 ?h227)
    case' h224 => refine' ha_cons ?h228 ?h229
    case' h228 => exact he_var 1
    case' h229 => exact ha_nil
    case' h226 => refine' ok_is_integer T
    case' h225 => walk_at "sub"
    case' h227 => exact hr.mono (by decide)
    · rfl
    refine' hb_ifF ?h232 ?q231 ?k230
    case' h232 => refine' ht_eq ?h233 ?h234
    case' h233 => exact he_var 1
    case' h234 => exact he_int
    · rfl
    refine' hb_cons (hs_set 2 sc_ratio.nd ?h237) ?k235
    case' h237 => refine' he_mulS ?h238 ?h239 ?z240
    case' h238 => refine' he_cp ?h241 ?h242 ?h243 ?h244
    case' h241 => refine' ha_cons ?h245 ?h246
    case' h245 => exact he_var 0
    case' h246 => refine' ha_cons ?h247 ?h248
    case' h247 => exact he_var 1
    case' h248 => exact ha_nil
    case' h243 => refine' ok_common_divisor T
    case' h242 => walk_at "sub"
    case' h244 => exact hr.mono (by decide)
    case' h239 => refine' he_ifI ?h249 (fun hb => ?h250) (fun hb => ?h251)
    case' h249 => refine' ht_gt ?h252 ?h253
    case' h252 => exact he_var 1
    case' h253 => exact he_int
    case' h250 => exact he_int
    case' h251 => refine' he_neg ?h254
    first | (case' h254 => exact he_int) | (case' h251 => exact he_int)
    case' z240 => try walk_at "side"
    · exact .inr (by split <;> decide)
    have hg : ((Int.gcd i 1 : Nat) : Int) * (if decide ((0 : Int) < 1) = true then (1 : Int) else -1) = 1 := by simp
    rw [hg]
    refine' hb_stop (hs_ret (he_is ?h257 ?q256))
    case' h257 => refine' he_tup ?h258 ?h259
    case' h258 => refine' had_cons ?h260 ?h261
    case' h260 => refine' he_fdivG ?h262 ?h263 ?z264
    case' h262 => exact he_var 0
    case' h263 => exact he_var 2
    case' h261 => refine' had_cons ?h265 ?h266
    case' h265 => refine' he_fdivG ?h267 ?h268 ?z269
    case' h267 => exact he_var 1
    case' h268 => exact he_var 2
    case' h266 => exact had_nil
    case' h259 => exact Nat.le_of_ble_eq_true rfl
    case' z269 => try walk_at "side"
    case' z264 => try walk_at "side"
    try (first | (case' z269 => walk_at "side"))
    try (first | (case' z264 => walk_at "side"))
    · exact ⟨by decide, by decide⟩
    · exact ⟨by decide, by decide⟩
    simp [ratD]
theorem ok_as_ratio (T : Tb fa fn K mg h) {q : Rat} : Def1 P w K mg base "as_ratio" 7 ["value"] [] (SpV [Nm q] [] [] (Rt q)) :=
  D_as_ratio T fun fd F => fn_v F sc_as_ratio rfl fun cdv A outer s H E F0 hr => by
    refine' hb_ifF ?h275 ?q274 ?k273
    case' h275 => refine' ht_not ?h276
    first | (case' h276 => refine' ht_val ?h277) | (case' h275 => refine' ht_val ?h277)
    first | (case' h277 => refine' he_cp ?h278 ?h279 ?h280 ?h281) | (case' h276 => refine' he_cp ?h278 ?h279 ?h280 ?h281) | (case' h275 => refine' he_cp ?h278 ?h279 ?h280 ?h281)
    case' h278 => refine' ha_cons ?h282 ?h283
    case' h282 => exact he_var 0
    case' h283 => exact ha_nil
    case' h280 => refine' ok_is_number T
    case' h279 => walk_at "sub"
    case' h281 => exact hr.mono (by decide)
    · rfl
    refine HB.nm 0 rfl (fun hd => ?_) ?_
    · refine' hb_stop (hs_ret (he_is ?h286 ?q285))
      case' h286 => refine' he_ifT ?h287 ?z289 ?h288
      case' h287 => refine' ht_val ?h290
      first | (case' h290 => refine' he_cp ?h291 ?h292 ?h293 ?h294) | (case' h287 => refine' he_cp ?h291 ?h292 ?h293 ?h294)
      case' h291 => refine' ha_cons ?h295 ?h296
      case' h295 => exact he_var 0
      case' h296 => exact ha_nil
      case' h293 => refine' ok_is_integer T
      case' h292 => walk_at "sub"
      case' h294 => exact hr.mono (by decide)
      case' h288 => refine' he_tup ?h297 ?h298
      case' h297 => refine' had_cons ?h299 ?h300
      case' h299 => exact he_var 0
      case' h300 => refine' had_cons ?h301 ?h302
      case' h301 => exact he_int
      case' h302 => exact had_nil
      case' h298 => exact Nat.le_of_ble_eq_true rfl
      case' z289 => try walk_at "side"
      · rfl
      show PyData.tuple [.int q.num, .int 1] = ratD q
      unfold ratD; rw [hd]; rfl
    · refine' hb_stop (hs_ret (he_is ?h305 ?q304))
      case' h305 => refine' he_ifF ?h306 ?z308 ?h307
      case' h306 => refine' ht_val ?h309
      first | (case' h309 => refine' he_cp ?h310 ?h311 ?h312 ?h313) | (case' h306 => refine' he_cp ?h310 ?h311 ?h312 ?h313)
      case' h310 => refine' ha_cons ?h314 ?h315
      case' h314 => exact he_var 0
      case' h315 => exact ha_nil
      case' h312 => refine' ok_is_integer T
      case' h311 => walk_at "sub"
      case' h313 => exact hr.mono (by decide)
      case' h307 => exact he_var 0
      case' z308 => try walk_at "side"
      · rfl
      rfl
theorem ok_plus (T : Tb fa fn K mg h) {p q : Rat} {a b : Nat} (hp : Sz a p) (hq : Sz b q) (hab : a + b ≤ 9000) : Def1 P w K mg base "plus" 9 ["first", "second"] [] (SpV [Nm p, Nm q] [] [] (Rt (p + q))) :=
  D_plus T fun fd F => fn_v F sc_plus rfl fun cdv A outer s H E F0 hr => by
    refine' hb_cons (hs_par 2 3 rfl sc_plus.nd ?h324) ?k322
    case' h324 => refine' ha_cons ?h325 ?h326
    case' h325 => refine' he_cp ?h327 ?h328 ?h329 ?h330
    case' h327 => refine' ha_cons ?h331 ?h332
    case' h331 => exact he_var 0
    case' h332 => exact ha_nil
    case' h329 => refine' ok_as_ratio T
    case' h328 => walk_at "sub"
    case' h330 => exact hr.mono (by decide)
    case' h326 => refine' ha_cons ?h333 ?h334
    case' h333 => refine' he_cp ?h335 ?h336 ?h337 ?h338
    case' h335 => refine' ha_cons ?h339 ?h340
    case' h339 => exact he_var 1
    case' h340 => exact ha_nil
    case' h337 => refine' ok_as_ratio T
    case' h336 => walk_at "sub"
    case' h338 => exact hr.mono (by decide)
    case' h334 => exact ha_nil
    refine' hb_stop (hs_ret (he_is ?h343 ?q342))
    case' h343 => refine' he_cp ?h344 ?h345 ?h346 ?h347
    case' h344 => refine' ha_cons ?h348 ?h349
    case' h348 => refine' he_add ?h350 ?h351
    case' h350 => refine' he_mul ?h352 ?h353 ?z354
    case' h352 => refine' he_ix ?h355 ?h356 ?h357
    case' h355 => exact he_var 2
    case' h356 => exact he_int
    case' h357 => walk_at "ix"
    case' h353 => refine' he_ix ?h358 ?h359 ?h360
    case' h358 => exact he_var 3
    case' h359 => exact he_int
    case' h360 => walk_at "ix"
    case' h351 => refine' he_mul ?h361 ?h362 ?z363
    case' h361 => refine' he_ix ?h364 ?h365 ?h366
    case' h364 => exact he_var 3
    case' h365 => exact he_int
    case' h366 => walk_at "ix"
    case' h362 => refine' he_ix ?h367 ?h368 ?h369
    case' h367 => exact he_var 2
    case' h368 => exact he_int
    case' h369 => walk_at "ix"
    case' h349 => refine' ha_cons ?h370 ?h371
    case' h370 => refine' he_mul ?h372 ?h373 ?z374
    case' h372 => refine' he_ix ?h375 ?h376 ?h377
    case' h375 => exact he_var 2
    case' h376 => exact he_int
    case' h377 => walk_at "ix"
    case' h373 => refine' he_ix ?h378 ?h379 ?h380
    case' h378 => exact he_var 3
    case' h379 => exact he_int
    case' h380 => walk_at "ix"
    case' h371 => exact ha_nil
    case' h346 => refine' ok_ratio T ?z381 ?z382
    case' h345 => walk_at "sub"
    case' h347 => exact hr.mono (by decide)
    case' z382 => try walk_at "side"
    case' z381 => try walk_at "side"
    case' z374 => try walk_at "side"
    case' z363 => try walk_at "side"
    case' z354 => try walk_at "side"
    try (first | (case' z382 => walk_at "side"))
    try (first | (case' z381 => walk_at "side"))
    try (first | (case' z374 => walk_at "side"))
    try (first | (case' z363 => walk_at "side"))
    try (first | (case' z354 => walk_at "side"))
    · exact cmulW (Szn hp) (Szd hq) (by omega)
    · exact cmulW (Szn hq) (Szd hp) (by omega)
    · exact cmulW (Szd hp) (Szd hq) (by omega)
    · exact Int.mul_ne_zero (den_ne p) (den_ne q)
    · exact mul_sm (Szd hp) (Szd hq) hab
    rw [add_parts]
theorem ok_minus (T : Tb fa fn K mg h) {p q : Rat} {a b : Nat} (hp : Sz a p) (hq : Sz b q) (hab : a + b ≤ 9000) : Def1 P w K mg base "minus" 9 ["first", "second"] [] (SpV [Nm p, Nm q] [] [] (Rt (p - q))) :=
  D_minus T fun fd F => fn_v F sc_minus rfl fun cdv A outer s H E F0 hr => by
    refine' hb_cons (hs_par 2 3 rfl sc_minus.nd ?h388) ?k386
    case' h388 => refine' ha_cons ?h389 ?h390
    case' h389 => refine' he_cp ?h391 ?h392 ?h393 ?h394
    case' h391 => refine' ha_cons ?h395 ?h396
    case' h395 => exact he_var 0
    case' h396 => exact ha_nil
    case' h393 => refine' ok_as_ratio T
    case' h392 => walk_at "sub"
    case' h394 => exact hr.mono (by decide)
    case' h390 => refine' ha_cons ?h397 ?h398
    case' h397 => refine' he_cp ?h399 ?h400 ?h401 ?h402
    case' h399 => refine' ha_cons ?h403 ?h404
    case' h403 => exact he_var 1
    case' h404 => exact ha_nil
    case' h401 => refine' ok_as_ratio T
    case' h400 => walk_at "sub"
    case' h402 => exact hr.mono (by decide)
    case' h398 => exact ha_nil
    refine' hb_stop (hs_ret (he_is ?h407 ?q406))
    case' h407 => refine' he_cp ?h408 ?h409 ?h410 ?h411
    case' h408 => refine' ha_cons ?h412 ?h413
    case' h412 => refine' he_sub ?h414 ?h415
    case' h414 => refine' he_mul ?h416 ?h417 ?z418
    case' h416 => refine' he_ix ?h419 ?h420 ?h421
    case' h419 => exact he_var 2
    case' h420 => exact he_int
    case' h421 => walk_at "ix"
    case' h417 => refine' he_ix ?h422 ?h423 ?h424
    case' h422 => exact he_var 3
    case' h423 => exact he_int
    case' h424 => walk_at "ix"
    case' h415 => refine' he_mul ?h425 ?h426 ?z427
    case' h425 => refine' he_ix ?h428 ?h429 ?h430
    case' h428 => exact he_var 3
    case' h429 => exact he_int
    case' h430 => walk_at "ix"
    case' h426 => refine' he_ix ?h431 ?h432 ?h433
    case' h431 => exact he_var 2
    case' h432 => exact he_int
    case' h433 => walk_at "ix"
    case' h413 => refine' ha_cons ?h434 ?h435
    case' h434 => refine' he_mul ?h436 ?h437 ?z438
    case' h436 => refine' he_ix ?h439 ?h440 ?h441
    case' h439 => exact he_var 2
    case' h440 => exact he_int
    case' h441 => walk_at "ix"
    case' h437 => refine' he_ix ?h442 ?h443 ?h444
    case' h442 => exact he_var 3
    case' h443 => exact he_int
    case' h444 => walk_at "ix"
    case' h435 => exact ha_nil
    case' h410 => refine' ok_ratio T ?z445 ?z446
    case' h409 => walk_at "sub"
    case' h411 => exact hr.mono (by decide)
    case' z446 => try walk_at "side"
    case' z445 => try walk_at "side"
    case' z438 => try walk_at "side"
    case' z427 => try walk_at "side"
    case' z418 => try walk_at "side"
    try (first | (case' z446 => walk_at "side"))
    try (first | (case' z445 => walk_at "side"))
    try (first | (case' z438 => walk_at "side"))
    try (first | (case' z427 => walk_at "side"))
    try (first | (case' z418 => walk_at "side"))
    · exact cmulW (Szn hp) (Szd hq) (by omega)
    · exact cmulW (Szn hq) (Szd hp) (by omega)
    · exact cmulW (Szd hp) (Szd hq) (by omega)
    · exact Int.mul_ne_zero (den_ne p) (den_ne q)
    · exact mul_sm (Szd hp) (Szd hq) hab
    rw [sub_parts]
theorem ok_times (T : Tb fa fn K mg h) {p q : Rat} {a b : Nat} (hp : Sz a p) (hq : Sz b q) (hab : a + b ≤ 9000) : Def1 P w K mg base "times" 9 ["first", "second"] [] (SpV [Nm p, Nm q] [] [] (Rt (p * q))) :=
  D_times T fun fd F => fn_v F sc_times rfl fun cdv A outer s H E F0 hr => by
    refine' hb_cons (hs_par 2 3 rfl sc_times.nd ?h452) ?k450
    case' h452 => refine' ha_cons ?h453 ?h454
    case' h453 => refine' he_cp ?h455 ?h456 ?h457 ?h458
    case' h455 => refine' ha_cons ?h459 ?h460
    case' h459 => exact he_var 0
    case' h460 => exact ha_nil
    case' h457 => refine' ok_as_ratio T
    case' h456 => walk_at "sub"
    case' h458 => exact hr.mono (by decide)
    case' h454 => refine' ha_cons ?h461 ?h462
    case' h461 => refine' he_cp ?h463 ?h464 ?h465 ?h466
    case' h463 => refine' ha_cons ?h467 ?h468
    case' h467 => exact he_var 1
    case' h468 => exact ha_nil
    case' h465 => refine' ok_as_ratio T
    case' h464 => walk_at "sub"
    case' h466 => exact hr.mono (by decide)
    case' h462 => exact ha_nil
    refine' hb_stop (hs_ret (he_is ?h471 ?q470))
    case' h471 => refine' he_cp ?h472 ?h473 ?h474 ?h475
    case' h472 => refine' ha_cons ?h476 ?h477
    case' h476 => refine' he_mul ?h478 ?h479 ?z480
    case' h478 => refine' he_ix ?h481 ?h482 ?h483
    case' h481 => exact he_var 2
    case' h482 => exact he_int
    case' h483 => walk_at "ix"
    case' h479 => refine' he_ix ?h484 ?h485 ?h486
    case' h484 => exact he_var 3
    case' h485 => exact he_int
    case' h486 => walk_at "ix"
    case' h477 => refine' ha_cons ?h487 ?h488
    case' h487 => refine' he_mul ?h489 ?h490 ?z491
    case' h489 => refine' he_ix ?h492 ?h493 ?h494
    case' h492 => exact he_var 2
    case' h493 => exact he_int
    case' h494 => walk_at "ix"
    case' h490 => refine' he_ix ?h495 ?h496 ?h497
    case' h495 => exact he_var 3
    case' h496 => exact he_int
    case' h497 => walk_at "ix"
    case' h488 => exact ha_nil
    case' h474 => refine' ok_ratio T ?z498 ?z499
    case' h473 => walk_at "sub"
    case' h475 => exact hr.mono (by decide)
    case' z499 => try walk_at "side"
    case' z498 => try walk_at "side"
    case' z491 => try walk_at "side"
    case' z480 => try walk_at "side"
    try (first | (case' z499 => walk_at "side"))
    try (first | (case' z498 => walk_at "side"))
    try (first | (case' z491 => walk_at "side"))
    try (first | (case' z480 => walk_at "side"))
    · exact cmulW (Szn hp) (Szn hq) (by omega)
    · exact cmulW (Szd hp) (Szd hq) (by omega)
    · exact Int.mul_ne_zero (den_ne p) (den_ne q)
    · exact mul_sm (Szd hp) (Szd hq) hab
    rw [mul_parts]
theorem ok_divided (T : Tb fa fn K mg h) {p q : Rat} {a b : Nat} (hp : Sz a p) (hq : Sz b q) (hab : a + b ≤ 9000) (h0 : q ≠ 0) : Def1 P w K mg base "divided" 9 ["first", "second"] [] (SpV [Nm p, Nm q] [] [] (Rt (p / q))) :=
  D_divided T fun fd F => fn_v F sc_divided rfl fun cdv A outer s H E F0 hr => by
    refine' hb_cons (hs_par 2 3 rfl sc_divided.nd ?h505) ?k503
    case' h505 => refine' ha_cons ?h506 ?h507
    case' h506 => refine' he_cp ?h508 ?h509 ?h510 ?h511
    case' h508 => refine' ha_cons ?h512 ?h513
    case' h512 => exact he_var 0
    case' h513 => exact ha_nil
    case' h510 => refine' ok_as_ratio T
    case' h509 => walk_at "sub"
    case' h511 => exact hr.mono (by decide)
    case' h507 => refine' ha_cons ?h514 ?h515
    case' h514 => refine' he_cp ?h516 ?h517 ?h518 ?h519
    case' h516 => refine' ha_cons ?h520 ?h521
    case' h520 => exact he_var 1
    case' h521 => exact ha_nil
    case' h518 => refine' ok_as_ratio T
    case' h517 => walk_at "sub"
    case' h519 => exact hr.mono (by decide)
    case' h515 => exact ha_nil
    refine' hb_stop (hs_ret (he_is ?h524 ?q523))
    case' h524 => refine' he_cp ?h525 ?h526 ?h527 ?h528
    case' h525 => refine' ha_cons ?h529 ?h530
    case' h529 => refine' he_mul ?h531 ?h532 ?z533
    case' h531 => refine' he_ix ?h534 ?h535 ?h536
    case' h534 => exact he_var 2
    case' h535 => exact he_int
    case' h536 => walk_at "ix"
    case' h532 => refine' he_ix ?h537 ?h538 ?h539
    case' h537 => exact he_var 3
    case' h538 => exact he_int
    case' h539 => walk_at "ix"
    case' h530 => refine' ha_cons ?h540 ?h541
    case' h540 => refine' he_mul ?h542 ?h543 ?z544
    case' h542 => refine' he_ix ?h545 ?h546 ?h547
    case' h545 => exact he_var 2
    case' h546 => exact he_int
    case' h547 => walk_at "ix"
    case' h543 => refine' he_ix ?h548 ?h549 ?h550
    case' h548 => exact he_var 3
    case' h549 => exact he_int
    case' h550 => walk_at "ix"
    case' h541 => exact ha_nil
    case' h527 => refine' ok_ratio T ?z551 ?z552
    case' h526 => walk_at "sub"
    case' h528 => exact hr.mono (by decide)
    case' z552 => try walk_at "side"
    case' z551 => try walk_at "side"
    case' z544 => try walk_at "side"
    case' z533 => try walk_at "side"
    try (first | (case' z552 => walk_at "side"))
    try (first | (case' z551 => walk_at "side"))
    try (first | (case' z544 => walk_at "side"))
    try (first | (case' z533 => walk_at "side"))
    · exact cmulW (Szn hp) (Szd hq) (by omega)
    · exact cmulW (Szd hp) (Szn hq) (by omega)
    · exact Int.mul_ne_zero (den_ne p) (fun z => h0 (Rat.num_eq_zero.mp z))
    · exact mul_sm (Szd hp) (Szn hq) hab
    rw [div_parts]
theorem ok_compare (T : Tb fa fn K mg h) {p q : Rat} {a b : Nat} (hp : Sz a p) (hq : Sz b q) (hab : a + b ≤ 9000) : Def1 P w K mg base "compare" 11 ["first", "second"] [] (SpV [Nm p, Nm q] [] [] (In (cmpQ p q))) :=
  D_compare T fun fd F => fn_v F sc_compare rfl fun cdv A outer s H E F0 hr => by
    refine' hb_cons (hs_set 2 sc_compare.nd ?h570) ?k568
    case' h570 => refine' he_ix ?h571 ?h572 ?h573
    case' h571 => refine' he_cp ?h574 ?h575 ?h576 ?h577
    case' h574 => refine' ha_cons ?h578 ?h579
    case' h578 => exact he_var 0
    case' h579 => refine' ha_cons ?h580 ?h581
    case' h580 => exact he_var 1
    case' h581 => exact ha_nil
    case' h576 => refine' ok_minus T ?z582 ?z583 ?z584
    case' h575 => walk_at "sub"
    case' h577 => exact hr.mono (by decide)
    case' h572 => exact he_int
    case' h573 => walk_at "ix"
    case' z584 => try walk_at "side"
    case' z583 => try walk_at "side"
    case' z582 => try walk_at "side"
    try (first | (case' z584 => walk_at "side"))
    try (first | (case' z583 => walk_at "side"))
    try (first | (case' z582 => walk_at "side"))
    refine' hb_stop (hs_ret (he_is ?h587 ?q586))
    case' h587 => refine' he_subB ?h588 ?h589
    case' h588 => refine' he_gt ?h590 ?h591
    case' h590 => exact he_var 2
    case' h591 => exact he_int
    case' h589 => refine' he_lt ?h592 ?h593
    case' h592 => exact he_var 2
    case' h593 => exact he_int
    rw [cmp_parts]
theorem ok_floor_of (T : Tb fa fn K mg h) {q : Rat} {a : Nat} (hq : Sz a q) (ha : a ≤ 9000) : Def1 P w K mg base "floor_of" 9 ["value"] [] (SpV [Nm q] [] [] (In q.floor)) :=
  D_floor_of T fun fd F => fn_v F sc_floor_of rfl fun cdv A outer s H E F0 hr => by
    refine' hb_cons (hs_set 1 sc_floor_of.nd ?h602) ?k600
    case' h602 => refine' he_cp ?h603 ?h604 ?h605 ?h606
    case' h603 => refine' ha_cons ?h607 ?h608
    case' h607 => exact he_var 0
    case' h608 => exact ha_nil
    case' h605 => refine' ok_as_ratio T
    case' h604 => walk_at "sub"
    case' h606 => exact hr.mono (by decide)
    refine' hb_stop (hs_ret (he_is ?h611 ?q610))
    case' h611 => refine' he_fdiv ?h612 ?h613 ?z614
    case' h612 => refine' he_ix ?h615 ?h616 ?h617
    case' h615 => exact he_var 1
    case' h616 => exact he_int
    case' h617 => walk_at "ix"
    case' h613 => refine' he_ix ?h618 ?h619 ?h620
    case' h618 => exact he_var 1
    case' h619 => exact he_int
    case' h620 => walk_at "ix"
    case' z614 => try walk_at "side"
    · exact ⟨by have := q.den_pos; omega, (Sm.of (Szd hq) ha).log (den_ne q)⟩
    rw [Rat.floor_def]
theorem ok_remainder (T : Tb fa fn K mg h) {p q : Rat} {a b : Nat} (hp : Sz a p) (hq : Sz b q) (hab : 2 * a + 3 * b ≤ 8000) (h0 : 0 < q) : Def1 P w K mg base "remainder" 11 ["value", "modulus"] [] (SpV [Nm p, Nm q] [] [] (Rt (rem p q))) :=
  D_remainder T fun fd F => fn_v F sc_remainder rfl fun cdv A outer s H E F0 hr => by
    refine' hb_cons (hs_par 2 3 rfl sc_remainder.nd ?h629) ?k627
    case' h629 => refine' ha_cons ?h630 ?h631
    case' h630 => refine' he_cp ?h632 ?h633 ?h634 ?h635
    case' h632 => refine' ha_cons ?h636 ?h637
    case' h636 => exact he_var 0
    case' h637 => exact ha_nil
    case' h634 => refine' ok_as_ratio T
    case' h633 => walk_at "sub"
    case' h635 => exact hr.mono (by decide)
    case' h631 => refine' ha_cons ?h638 ?h639
    case' h638 => refine' he_cp ?h640 ?h641 ?h642 ?h643
    case' h640 => refine' ha_cons ?h644 ?h645
    case' h644 => exact he_var 1
    case' h645 => exact ha_nil
    case' h642 => refine' ok_as_ratio T
    case' h641 => walk_at "sub"
    case' h643 => exact hr.mono (by decide)
    case' h639 => exact ha_nil
    refine' hb_ifF ?h648 ?q647 ?k646
    case' h648 => refine' ht_le ?h649 ?h650
    case' h649 => refine' he_ix ?h651 ?h652 ?h653
    case' h651 => exact he_var 3
    case' h652 => exact he_int
    case' h653 => walk_at "ix"
    case' h650 => exact he_int
    · have h1 : 0 ≤ q.num := Rat.num_nonneg.mpr (Rat.le_of_lt h0)
      have h2 : q.num ≠ 0 := fun z => (Rat.ne_of_gt h0) (Rat.num_eq_zero.mp z)
      exact decide_eq_false (by omega)
    have hd := hp.div hq
    have hf := hd.floor
    have ht := hq.mul hf
    refine' hb_stop (hs_ret (he_is ?h656 ?q655))
    case' h656 => refine' he_cp ?h657 ?h658 ?h659 ?h660
    case' h657 => refine' ha_cons ?h661 ?h662
    case' h661 => exact he_var 2
    case' h662 => refine' ha_cons ?h663 ?h664
    case' h663 => refine' he_cp ?h665 ?h666 ?h667 ?h668
    case' h665 => refine' ha_cons ?h669 ?h670
    case' h669 => exact he_var 3
    case' h670 => refine' ha_cons ?h671 ?h672
    case' h671 => refine' he_cp ?h673 ?h674 ?h675 ?h676
    case' h673 => refine' ha_cons ?h677 ?h678
    case' h677 => refine' he_cp ?h679 ?h680 ?h681 ?h682
    case' h679 => refine' ha_cons ?h683 ?h684
    case' h683 => exact he_var 2
    case' h684 => refine' ha_cons ?h685 ?h686
    case' h685 => exact he_var 3
    case' h686 => exact ha_nil
    case' h681 => refine' ok_divided T ?z687 ?z688 ?z689 ?z690
    case' h680 => walk_at "sub"
    case' h682 => exact hr.mono (by decide)
    case' h678 => exact ha_nil
    case' h675 => refine' ok_floor_of T ?z691 ?z692
    case' h674 => walk_at "sub"
    case' h676 => exact hr.mono (by decide)
    case' h672 => exact ha_nil
    case' h667 => refine' ok_times T ?z693 ?z694 ?z695
    case' h666 => walk_at "sub"
    case' h668 => exact hr.mono (by decide)
    case' h664 => exact ha_nil
    case' h659 => refine' ok_minus T ?z696 ?z697 ?z698
    case' h658 => walk_at "sub"
    case' h660 => exact hr.mono (by decide)
    case' z698 => try walk_at "side"
    case' z697 => try walk_at "side"
    case' z696 => try walk_at "side"
    case' z695 => try walk_at "side"
    case' z694 => try walk_at "side"
    case' z693 => try walk_at "side"
    case' z692 => try walk_at "side"
    case' z691 => try walk_at "side"
    case' z690 => try walk_at "side"
    case' z689 => try walk_at "side"
    case' z688 => try walk_at "side"
    case' z687 => try walk_at "side"
    try (first | (case' z698 => walk_at "side"))
    try (first | (case' z697 => walk_at "side"))
    try (first | (case' z696 => walk_at "side"))
    try (first | (case' z695 => walk_at "side"))
    try (first | (case' z694 => walk_at "side"))
    try (first | (case' z693 => walk_at "side"))
    try (first | (case' z692 => walk_at "side"))
    try (first | (case' z691 => walk_at "side"))
    try (first | (case' z690 => walk_at "side"))
    try (first | (case' z689 => walk_at "side"))
    try (first | (case' z688 => walk_at "side"))
    try (first | (case' z687 => walk_at "side"))
    all_goals first | assumption | omega | skip
    · exact fun z => Rat.ne_of_gt h0 z
    · rfl
end
end Hd

namespace Hd
open PySem PySem.Spec PyProof.Rows L2 Tp Mq
local macro_rules | `(tactic| walk_at "sub") => `(tactic| repeat' (first | exact SubL.nil | refine' SubL.same ?_ | refine' SubL.cons nm_rat ?_ | refine' SubL.cons nm_int ?_ | refine' SubL.cons (nm_of (by assumption)) ?_ | refine' SubL.dfl (fun _ => .int _) ?_ | refine' SubL.cons (fun _ _ h => h) ?_))
local macro_rules | `(tactic| walk_at "ix") => `(tactic| first | exact IxOk.tup rfl | exact IxOk.lst rfl | exact IxOk.own (by first | assumption | exact List.mem_cons_self) rfl | exact IxOk.scrD (by constructor <;> omega) | exact IxOk.lstI (by constructor <;> omega) | exact IxOk.lstR (by constructor <;> omega) | refine' IxOk.scrD ?_ | refine' IxOk.lstI ?_ | refine' IxOk.lstR ?_ | refine' IxOk.lstD ?_ | refine' IxOk.tupD ?_)
local macro_rules | `(tactic| walk_at "ln") => `(tactic| first | exact LenOk.tup | exact LenOk.lst | exact LenOk.scr | exact LenOk.own (by first | assumption | exact List.mem_cons_self) | refine' LenOk.str ?_)
local macro_rules | `(tactic| walk_at "side") => `(tactic| first | assumption | decide | omega)
local macro_rules | `(tactic| walk_at "subc") => `(tactic| repeat' (first | exact Sub.nil | refine Sub.keep ?_ | refine Sub.forget ?_ | refine Sub.weak (fun _ _ h => h) ?_))
section
variable {P : Program} {w : World} {K : PySem.W.Frag} {mg : Str → Option Value} {base h : Heap}
theorem ok_in_order (T : Tb fa fn K mg h) {qs rs : List Rat} {ds : List PyData} {k : Nat} (hd : NumsOf ds qs) (hs : ∀ q ∈ qs, Sz k q) (hk : k * (qs.length + 1) ≤ 4000) (hl : qs.length < 64) (hp : rs.Pairwise (· < ·)) (hm : ∀ q, q ∈ rs ↔ q ∈ qs) (hrl : rs.length < 64) :
    Def1 P w K mg base "in_order" 9 ["values"] [] (SpV [Ls ds] [] [] (Ls (rs.map ratD))) :=
  D_in_order T fun fd F => fn_v F sc_in_order rfl fun cdv A outer s H E F0 hr => by
    have hz : (64 : Nat) ≤ sizeLine := by decide
    have hgd : ∀ i, i < qs.length → qs.getD i 0 ∈ qs := fun i hi => by
      rw [List.getD_eq_getElem?_getD, List.getElem?_eq_getElem hi]; exact List.getElem_mem _
    have hdv : ∀ q ∈ qs, q.den ∣ cmn qs 1 := fun q hq => cmn_dvd _ _ _ hq
    have hc0 : cmn qs 1 ≠ 0 := cmn_pos _ _ (by decide)
    refine hb_cons (hs_setLc 1 (own := [("value", 2)]) (n := qs.length) (Y := fun i => Dv (ds.getD i .none)) (bb := fun _ => true) (f := fun i => ratD (qs.getD i 0)) (Ct := fun i => [some (Ls ds), none, some (Dv (ds.getD i .none)), none, none, none]) (Oi := fun _ => []) rfl sc_in_order.nd ((hi_list (he_var 0)).cast hd.1 fun _ _ => rfl) (blkOk_by rfl) ⟨?g1, ?t1, ?e1, fun _ _ _ => rfl⟩ (by omega) (accL_map _ _ _)) ?k1
    case g1 => exact fun i hi s H C0 cl fp => hgw_name 2 sc_in_order.nd
    case t1 => exact fun i hi s H C0 cl fp a ds => hts_nil
    case e1 =>
      intro i hi _ s H C0 cl fp a ds'
      have hn := hd.2 i hi
      refine' he_is ?h18 ?q17
      case' h18 => refine' he_cp ?h19 ?h20 ?h21 ?h22
      case' h19 => refine' ha_cons ?h23 ?h24
      case' h23 => exact he_var 2
      case' h24 => exact ha_nil
      case' h21 => refine' ok_as_ratio T
      case' h20 => walk_at "sub"
      case' h22 => exact hr.mono (by decide)
      rfl
    refine' hb_cons (hs_set 3 sc_in_order.nd ?h30) ?k28
    case' h30 => exact he_int
    have hgq : ∀ i, i < qs.length → qs.take (i + 1) = qs.take i ++ [qs.getD i 0] := fun i hi => by
      rw [List.take_succ, List.getD_eq_getElem?_getD, List.getElem?_eq_getElem hi]; rfl
    have hk2 : k * (qs.length + 1) = k * qs.length + k := Nat.mul_succ _ _
    have hcl : ∀ i, i ≤ qs.length → cmn (qs.take i) 1 < 2 ^ (1 + k * i) := fun i hi => by
      have h1 := cmn_lt (k := k) (qs.take i) 1 1 (by decide) fun q hq => hs q (List.mem_of_mem_take hq)
      rwa [List.length_take, Nat.min_eq_left hi] at h1
    have hki : ∀ i, i ≤ qs.length → k * i ≤ k * qs.length := fun i hi => Nat.mul_le_mul_left _ hi
    refine hb_for (n := qs.length) (Y := fun i => Rt (qs.getD i 0)) rfl .never (hi_listM 0 (he_var 1)) (fun i => [some (Ls ds), some (Ls (qs.map ratD)), none, some (In (cmn (qs.take i) 1 : Nat)), none, none])
      (fun i => [some (Ls ds), some (Ls (qs.map ratD)), none, some (In (cmn (qs.take i) 1 : Nat)), some (Rt (qs.getD i 0)), none]) (fun _ => []) qs.length (Nat.le_refl _) ?sub rfl ?hg ?hb (.inl ⟨rfl, ?kk⟩)
    case sub => walk_at "subc"
    case hg => exact fun i hi => hg_name 4 sc_in_order.nd
    case hb =>
      intro i hi
      have hsq := hs _ (hgd i hi)
      have h1 := hcl i (by omega)
      have h2 := hki i (by omega)
      refine' hb_cons (hs_set 3 sc_in_order.nd ?h36) ?k34
      case' h36 => refine' he_fdiv ?h37 ?h38 ?z39
      case' h37 => refine' he_mul ?h40 ?h41 ?z42
      case' h40 => exact he_var 3
      case' h41 => refine' he_ix ?h43 ?h44 ?h45
      case' h43 => exact he_var 4
      case' h44 => exact he_int
      case' h45 => walk_at "ix"
      case' h38 => refine' he_cp ?h46 ?h47 ?h48 ?h49
      case' h46 => refine' ha_cons ?h50 ?h51
      case' h50 => exact he_var 3
      case' h51 => refine' ha_cons ?h52 ?h53
      case' h52 => refine' he_ix ?h54 ?h55 ?h56
      case' h54 => exact he_var 4
      case' h55 => exact he_int
      case' h56 => walk_at "ix"
      case' h53 => exact ha_nil
      case' h48 => refine' ok_common_divisor T
      case' h47 => walk_at "sub"
      case' h49 => exact hr.mono (by decide)
      case' z42 => try walk_at "side"
      case' z39 => try walk_at "side"
      try (first | (case' z42 => walk_at "side"))
      try (first | (case' z39 => walk_at "side"))
      · have hg1 := gcd_sm (i := (cmn (qs.take i) 1 : Nat)) (j := (qs.getD i 0).den) (den_ne _) (Sm.of (Szd hsq) (by omega)) (s := 1) (.inl rfl)
        have hg2 := gcd_ne (i := (cmn (qs.take i) 1 : Nat)) (j := (qs.getD i 0).den) (den_ne _) (s := 1) (.inl rfl)
        have hlog := hg1.log hg2
        rw [Int.mul_one] at hg2 hlog
        exact ⟨by omega, hlog⟩
      · exact cmulW (a := 1 + k * i) (b := k) (by rw [Int.natAbs_natCast]; exact h1) (Szd hsq) (by omega)
      rw [lcm_step, hgq i hi, cmn_snoc]
      exact hb_nilS (by walk_at "subc")
    rw [List.take_length]
    have hwp : (rs.map (wv (cmn qs 1))).Pairwise (· < ·) := List.pairwise_map.mpr (hp.imp_of_mem fun ha hb h => wv_lt hc0 (hdv _ ((hm _).mp ha)) (hdv _ ((hm _).mp hb)) h)
    have hrm : (List.range qs.length).map (fun i => wv (cmn qs 1) (qs.getD i 0)) = qs.map (wv (cmn qs 1)) := range_getD _ _ _
    have hcq := hcl qs.length (Nat.le_refl _)
    rw [List.take_length] at hcq
    refine hb_cons (hs_set 5 sc_in_order.nd (he_hl (hl_sortSi (ns := rs.map (wv (cmn qs 1))) (b_sorted T) rfl (hsi_sc (own := [("one", 4)]) (n := qs.length) (Y := fun i => Rt (qs.getD i 0)) (f := fun i => wv (cmn qs 1) (qs.getD i 0))
      (Ct := fun i => [some (Ls ds), some (Ls (qs.map ratD)), none, some (In (cmn qs 1 : Nat)), some (Rt (qs.getD i 0)), none]) rfl sc_in_order.nd (hi_listM 0 (he_var 1)) (blkOk_by rfl) ⟨?g2, ?e2⟩ hl) ?cn hwp ?mm))) ?k2
    case g2 => exact fun i hi s H C0 cl fp => hgw_name 4 sc_in_order.nd
    case e2 =>
      intro i hi s H C0 cl fp a S m
      have hsq := hs _ (hgd i hi)
      have hd0 := (qs.getD i 0).den_pos
      have hdl := Nat.le_of_dvd (Nat.pos_of_ne_zero hc0) (hdv _ (hgd i hi))
      refine' he_is ?h62 ?q61
      case' h62 => refine' he_mul ?h63 ?h64 ?z65
      case' h63 => refine' he_ix ?h66 ?h67 ?h68
      case' h66 => exact he_var 4
      case' h67 => exact he_int
      case' h68 => walk_at "ix"
      case' h64 => refine' he_fdiv ?h69 ?h70 ?z71
      case' h69 => exact he_var 3
      case' h70 => refine' he_ix ?h72 ?h73 ?h74
      case' h72 => exact he_var 4
      case' h73 => exact he_int
      case' h74 => walk_at "ix"
      case' z71 => try walk_at "side"
      case' z65 => try walk_at "side"
      try (first | (case' z71 => walk_at "side"))
      try (first | (case' z65 => walk_at "side"))
      · refine cmulW (a := k) (b := 1 + k * qs.length) (Szn hsq) ?_ (by omega)
        rw [← Int.natCast_ediv, Int.natAbs_natCast]
        exact Nat.lt_of_le_of_lt (Nat.div_le_self _ _) hcq
      · exact ⟨by omega, (Sm.of (Szd hsq) (by omega)).log (den_ne _)⟩
      · rfl
    case cn => exact Nat.lt_of_le_of_lt (cntS_le _ _ _) (by rw [List.length_map, List.length_range]; omega)
    case mm =>
      intro z
      rw [putS_mem, hrm, List.mem_map, List.mem_map]
      constructor
      · rintro ⟨q, h1, h2⟩
        exact .inr ⟨q, (hm q).mp h1, h2⟩
      · rintro (h1 | ⟨q, h1, h2⟩)
        · cases h1
        · exact ⟨q, (hm q).mpr h1, h2⟩
    refine hb_stop (hs_ret (he_hl (hl_lc (own := [("value", 2)]) (n := rs.length) (Y := fun i => In (wv (cmn qs 1) (rs.getD i 0))) (bb := fun _ => true) (f := fun i => ratD (rs.getD i 0)) (Ct := fun i => [some (Ls ds), some (Ls (qs.map ratD)), some (In (wv (cmn qs 1) (rs.getD i 0))), some (In (cmn qs 1 : Nat)), none, some (Ls ((rs.map (wv (cmn qs 1))).map PyData.int))]) (Oi := fun _ => []) rfl sc_in_order.nd ?it (blkOk_by rfl) ⟨?g3, ?t3, ?e3, fun _ _ _ => rfl⟩ (by omega) (accL_map _ _ _))))
    case it =>
      refine (hi_listM (f := PyData.int) 0 (he_var 5)).cast (List.length_map _) fun i hi => ?_
      show Dv (PyData.int _) = Dv (PyData.int _)
      rw [List.getD_eq_getElem?_getD, List.getElem?_map, List.getElem?_eq_getElem hi, List.getD_eq_getElem?_getD, List.getElem?_eq_getElem hi]; rfl
    case g3 => exact fun i hi s H C0 cl fp => hgw_name 2 sc_in_order.nd
    case t3 => exact fun i hi s H C0 cl fp a ds => hts_nil
    case e3 =>
      intro i hi _ s H C0 cl fp a ds'
      have hri : rs.getD i 0 ∈ qs := (hm _).mp (by rw [List.getD_eq_getElem?_getD, List.getElem?_eq_getElem hi]; exact List.getElem_mem _)
      refine' he_is ?h80 ?q79
      case' h80 => refine' he_cp ?h81 ?h82 ?h83 ?h84
      case' h81 => refine' ha_cons ?h85 ?h86
      case' h85 => exact he_var 2
      case' h86 => refine' ha_cons ?h87 ?h88
      case' h87 => exact he_var 3
      case' h88 => exact ha_nil
      case' h83 => refine' ok_ratio T ?z89 ?z90
      case' h82 => walk_at "sub"
      case' h84 => exact hr.mono (by decide)
      case' z90 => try walk_at "side"
      case' z89 => try walk_at "side"
      try (first | (case' z90 => walk_at "side"))
      try (first | (case' z89 => walk_at "side"))
      · exact Sm.of (a := 1 + k * qs.length) (by rw [Int.natAbs_natCast]; exact hcq) (by omega)
      · rw [wv_rat hc0 (hdv _ hri)]
end
end Hd

namespace Hd
open PySem PySem.Spec PyProof.Rows L2 Tp Mq
local macro_rules | `(tactic| walk_at "sub") => `(tactic| repeat' (first | exact SubL.nil | refine' SubL.same ?_ | refine' SubL.cons nm_rat ?_ | refine' SubL.cons nm_int ?_ | refine' SubL.cons (nm_of (by assumption)) ?_ | refine' SubL.dfl (fun _ => .int _) ?_ | refine' SubL.cons (fun _ _ h => h) ?_))
local macro_rules | `(tactic| walk_at "ix") => `(tactic| first | exact IxOk.tup rfl | exact IxOk.lst rfl | exact IxOk.own (by first | assumption | exact List.mem_cons_self) rfl | exact IxOk.scrD (by constructor <;> omega) | exact IxOk.lstI (by constructor <;> omega) | exact IxOk.lstR (by constructor <;> omega) | refine' IxOk.scrD ?_ | refine' IxOk.lstI ?_ | refine' IxOk.lstR ?_ | refine' IxOk.lstD ?_ | refine' IxOk.tupD ?_)
local macro_rules | `(tactic| walk_at "ln") => `(tactic| first | exact LenOk.tup | exact LenOk.lst | exact LenOk.scr | exact LenOk.own (by first | assumption | exact List.mem_cons_self) | refine' LenOk.str ?_)
local macro_rules | `(tactic| walk_at "side") => `(tactic| first | assumption | decide | omega)
local macro_rules | `(tactic| walk_at "subc") => `(tactic| repeat' (first | exact Sub.nil | refine Sub.keep ?_ | refine Sub.forget ?_ | refine Sub.weak (fun _ _ h => h) ?_))
local macro_rules | `(tactic| walk_at "side") => `(tactic| first | assumption | exact ⟨by decide, by decide⟩ | exact Or.inl ⟨by omega, by omega⟩ | exact Or.inr ⟨by omega, by omega⟩ | omega | decide)
def plO (p : Int × Int) : List PyData := [.int p.1, .int p.2]
def Plk (p : Int × Int) : Prop := 0 ≤ p.1 ∧ 0 ≤ p.2 ∧ p.2 < 2147483647
def stp (s : Int) : Int := (s * 48271 + 11) % 2147483647
def nxp (p : Int × Int) (m : Int) : Int × Int := if 0 < p.1 then (p.1 / m, p.2) else (p.1, stp p.2)
def drp (p : Int × Int) (m : Int) : Int := if 0 < p.1 then p.1 % m else stp p.2 * stp p.2 % 2147483629 / 64 % m
theorem nxp_ok {p : Int × Int} {m : Int} (h : Plk p) (hm : 0 < m) : Plk (nxp p m) := by
  obtain ⟨h1, h2, h3⟩ := h
  unfold nxp
  split
  · exact ⟨Int.ediv_nonneg h1 (by omega), h2, h3⟩
  · exact ⟨h1, by show 0 ≤ stp p.2; unfold stp; omega, by show stp p.2 < _; unfold stp; omega⟩
theorem drp_bd {p : Int × Int} {m : Int} (hm : 0 < m) : 0 ≤ drp p m ∧ drp p m < m := by
  unfold drp
  split <;> exact ⟨Int.emod_nonneg _ (by omega), Int.emod_lt_of_pos _ hm⟩
section
variable {P : Program} {w : World} {K : PySem.W.Frag} {mg : Str → Option Value} {base h : Heap} {a : Addr} {p : Int × Int}
theorem ok_draw (T : Tb fa fn K mg h) {m : Int} (hp : Plk p) (hm : 0 < m ∧ m < 2 ^ 64) : Def1 P w K mg base "_law_draw" 1 ["pool", "many"] [] (SpV [Sv (.ref a), In m] [(a, LsO (plO p))] [(a, LsO (plO (nxp p m)))] (In (drp p m))) :=
  D__law_draw T fun fd F => fn_v F sc__law_draw rfl fun cdv A outer s H E F0 hr => by
    obtain ⟨c, t⟩ := p
    obtain ⟨h1, h2, h3⟩ := hp
    obtain ⟨m1, m2⟩ := hm
    have hml : m.natAbs.log2 < 9000 := Nat.lt_of_le_of_lt (log_le (a := 64) (by omega)) (by decide)
    by_cases h0 : 0 < c
    · have e1 : nxp (c, t) m = (c / m, t) := if_pos h0
      have e2 : drp (c, t) m = c % m := if_pos h0
      rw [e1, e2]
      refine' hb_ifT ?h6 ?q5 ?k4
      case' h6 => refine' ht_gt ?h7 ?h8
      case' h7 => refine' he_ix ?h9 ?h10 ?h11
      case' h9 => exact he_var 0
      case' h10 => exact he_int
      case' h11 => walk_at "ix"
      case' h8 => exact he_int
      · exact decide_eq_true h0
      refine' hb_cons (hs_set 2 sc__law_draw.nd ?h14) ?k12
      case' h14 => refine' he_mod ?h15 ?h16 ?z17
      case' h15 => refine' he_ix ?h18 ?h19 ?h20
      case' h18 => exact he_var 0
      case' h19 => exact he_int
      case' h20 => walk_at "ix"
      case' h16 => exact he_var 1
      case' z17 => try walk_at "side"
      refine' hb_cons (hs_item ?h24 ?h25 ?h26 ?h27) ?k21
      case' h24 => refine' he_fdiv ?h28 ?h29 ?z30
      case' h28 => refine' he_ix ?h31 ?h32 ?h33
      case' h31 => exact he_var 0
      case' h32 => exact he_int
      case' h33 => walk_at "ix"
      case' h29 => exact he_var 1
      case' h25 => exact he_var 0
      case' h26 => exact he_int
      case' h27 => rfl
      case' z30 => try walk_at "side"
      · exact ⟨m1, hml⟩
      refine' hb_stop (hs_ret (he_is ?h36 ?q35))
      case' h36 => exact he_var 2
      rfl
    · have e1 : nxp (c, t) m = (c, stp t) := if_neg h0
      have e2 : drp (c, t) m = stp t * stp t % 2147483629 / 64 % m := if_neg h0
      rw [e1, e2]
      have s1 : 0 ≤ stp t := by unfold stp; omega
      have s2 : stp t < 2147483647 := by unfold stp; omega
      refine' hb_ifF ?h42 ?q41 ?k40
      case' h42 => refine' ht_gt ?h43 ?h44
      case' h43 => refine' he_ix ?h45 ?h46 ?h47
      case' h45 => exact he_var 0
      case' h46 => exact he_int
      case' h47 => walk_at "ix"
      case' h44 => exact he_int
      · exact decide_eq_false h0
      refine' hb_cons (hs_item ?h51 ?h52 ?h53 ?h54) ?k48
      case' h51 => refine' he_mod ?h55 ?h56 ?z57
      case' h55 => refine' he_add ?h58 ?h59
      case' h58 => refine' he_mulS ?h60 ?h61 ?z62
      case' h60 => refine' he_ix ?h63 ?h64 ?h65
      case' h63 => exact he_var 0
      case' h64 => exact he_int
      case' h65 => walk_at "ix"
      case' h61 => exact he_int
      case' h59 => exact he_int
      case' h56 => exact he_int
      case' h52 => exact he_var 0
      case' h53 => exact he_int
      case' h54 => rfl
      case' z62 => try walk_at "side"
      case' z57 => try walk_at "side"
      try (first | (case' z62 => walk_at "side"))
      try (first | (case' z57 => walk_at "side"))
      have e3 : (t * 48271 + 11) % 2147483647 = stp t := rfl
      rw [e3]
      refine' hb_stop (hs_ret (he_is ?h68 ?q67))
      case' h68 => refine' he_mod ?h69 ?h70 ?z71
      case' h69 => refine' he_fdiv ?h72 ?h73 ?z74
      case' h72 => refine' he_mod ?h75 ?h76 ?z77
      case' h75 => refine' he_mulS ?h78 ?h79 ?z80
      case' h78 => refine' he_ix ?h81 ?h82 ?h83
      case' h81 => exact he_var 0
      case' h82 => exact he_int
      case' h83 => walk_at "ix"
      case' h79 => refine' he_ix ?h84 ?h85 ?h86
      case' h84 => exact he_var 0
      case' h85 => exact he_int
      case' h86 => walk_at "ix"
      case' h76 => exact he_int
      case' h73 => exact he_int
      case' h70 => exact he_var 1
      case' z80 => try walk_at "side"
      case' z77 => try walk_at "side"
      case' z74 => try walk_at "side"
      case' z71 => try walk_at "side"
      try (first | (case' z80 => walk_at "side"))
      try (first | (case' z77 => walk_at "side"))
      try (first | (case' z74 => walk_at "side"))
      try (first | (case' z71 => walk_at "side"))
      rfl
/-- the pool's start -/
def cl0 (ns : List Int) (k : Nat) : Int := if k < ns.length then ns.getD k 0 else 0
def pl0 (ns : List Int) (k : Nat) : Int × Int := (if cl0 ns k < 10 ^ 18 then 0 else cl0 ns k, (cl0 ns k % 2147483629 + 7919 * k * k + 31) ^ 3 % 2147483647)
theorem pl0_ok (ns : List Int) (k : Nat) : Plk (pl0 ns k) := by
  refine ⟨?_, ?_, ?_⟩
  · show 0 ≤ (if cl0 ns k < 10 ^ 18 then (0 : Int) else cl0 ns k)
    split <;> omega
  · exact Int.emod_nonneg _ (by decide)
  · exact Int.emod_lt_of_pos _ (by decide)
theorem ok_pool (T : Tb fa fn K mg h) {ns : List Int} {k : Nat} (hk : k < 20) : Def1 P w K mg base "_law_pool" 1 ["script", "k"] [] (SpL [Scr K ns, In k] [] [] (plO (pl0 ns k))) :=
  D__law_pool T fun fd F => fn_l F sc__law_pool rfl fun cdv A outer s H E F0 hr => by
    refine' hb_cons (hs_set 2 sc__law_pool.nd ?h95) ?k93
    case' h95 => exact he_int
    have hlt : decide ((k : Int) < (ns.length : Int)) = decide (k < ns.length) := by
      by_cases z : k < ns.length
      · rw [decide_eq_true z]; exact decide_eq_true (by omega)
      · rw [decide_eq_false z]; exact decide_eq_false (by omega)
    refine' hb_cons (hs_if (O1 := []) (o := .nx ([some (Scr K ns), some (In k), some (In (cl0 ns k)), none]) ([])) ?h98 (fun hb => ?b99) (fun hb => ?b100)) ?k96
    case' h98 => refine' ht_lt ?h101 ?h102
    case' h101 => exact he_var 1
    case' h102 => refine' he_len (b_len T) ?h103 ?h104
    case' h103 => exact he_var 0
    case' h104 => walk_at "ln"
    · rw [hlt] at hb
      have hb := of_decide_eq_true hb
      have e : cl0 ns k = ns.getD k 0 := if_pos hb
      rw [e]
      refine' hb_cons (hs_set 2 sc__law_pool.nd ?h110) ?k108
      case' h110 => refine' he_ix ?h111 ?h112 ?h113
      case' h111 => exact he_var 0
      case' h112 => exact he_var 1
      case' h113 => walk_at "ix"
      exact hb_nilS (by walk_at "subc")
    · rw [hlt] at hb
      have hb := of_decide_eq_false hb
      have e : cl0 ns k = 0 := if_neg hb
      rw [e]
      exact hb_nilS (by walk_at "subc")
    refine' hb_cons (hs_set 3 sc__law_pool.nd ?h119) ?k117
    case' h119 => refine' he_mod ?h120 ?h121 ?z122
    case' h120 => refine' he_pow ?h123 ?h124 ?z125
    case' h123 => refine' he_add ?h126 ?h127
    case' h126 => refine' he_add ?h128 ?h129
    case' h128 => refine' he_mod ?h130 ?h131 ?z132
    case' h130 => exact he_var 2
    case' h131 => exact he_int
    case' h129 => refine' he_mulS ?h133 ?h134 ?z135
    case' h133 => refine' he_mulS ?h136 ?h137 ?z138
    case' h136 => exact he_int
    case' h137 => exact he_var 1
    case' h134 => exact he_var 1
    case' h127 => exact he_int
    case' h124 => exact he_int
    case' h121 => exact he_int
    case' z138 => try walk_at "side"
    case' z135 => try walk_at "side"
    case' z132 => try walk_at "side"
    case' z125 => try walk_at "side"
    case' z122 => try walk_at "side"
    try (first | (case' z138 => walk_at "side"))
    try (first | (case' z135 => walk_at "side"))
    try (first | (case' z132 => walk_at "side"))
    try (first | (case' z125 => walk_at "side"))
    try (first | (case' z122 => walk_at "side"))
    · have h1 : (k : Int) * k ≤ 20 * 20 := Int.mul_le_mul (by omega) (by omega) (by omega) (by omega)
      have h2 : (0 : Int) ≤ (k : Int) * k := Int.mul_nonneg (by omega) (by omega)
      have h3 : (7919 : Int) * k * k = 7919 * ((k : Int) * k) := Int.mul_assoc _ _ _
      rw [h3]
      generalize (k : Int) * k = kk at h1 h2
      exact ⟨by decide, by decide, by omega⟩
    refine' hb_cons (hs_if (O1 := []) (o := .nx ([some (Scr K ns), some (In k), some (In (pl0 ns k).1), some (In (pl0 ns k).2)]) ([])) ?h141 (fun hb => ?b142) (fun hb => ?b143)) ?k139
    case' h141 => refine' ht_lt ?h144 ?h145
    case' h144 => exact he_var 2
    case' h145 => refine' he_pow ?h146 ?h147 ?z148
    case' h146 => exact he_int
    case' h147 => exact he_int
    case' z148 => try walk_at "side"
    · have hb := of_decide_eq_true hb
      have e : (pl0 ns k).1 = 0 := if_pos hb
      rw [e]
      refine' hb_cons (hs_set 2 sc__law_pool.nd ?h154) ?k152
      case' h154 => exact he_int
      exact hb_nilS (by walk_at "subc")
    · have hb := of_decide_eq_false hb
      have e : (pl0 ns k).1 = cl0 ns k := if_neg hb
      rw [e]
      exact hb_nilS (by walk_at "subc")
    exact hb_stop (hs_retL (hl_lst (had_cons (he_var 2) (had_cons (he_var 3) had_nil)) (Nat.le_of_ble_eq_true rfl)))
theorem ok_choose (T : Tb fa fn K mg h) {ds : List PyData} (hp : Plk p) (hl : 0 < ds.length ∧ ds.length < 1000) : Def1 P w K mg base "_law_choose" 3 ["pool", "items"] [] (SpV [Sv (.ref a), Ls ds] [(a, LsO (plO p))] [(a, LsO (plO (nxp p ds.length)))] (Dv (ds.getD (drp p ds.length).toNat .none))) :=
  D__law_choose T fun fd F => fn_v F sc__law_choose rfl fun cdv A outer s H E F0 hr => by
    have hb := drp_bd (p := p) (m := ds.length) (by omega)
    refine' hb_stop (hs_ret (he_ix (he_var 1) (he_c (Oc := [_]) (Oc' := [_]) (ha_cons (he_var 0) (ha_cons (he_len (b_len T) (he_var 1) LenOk.lst) ha_nil)) ?s1 (ok_draw T hp ?s2) (hr.mono (by decide))) ?s3))
    case s1 => walk_at "sub"
    case s2 => exact ⟨by omega, by omega⟩
    case s3 => exact IxOk.lstD hb
theorem ok_chooseI (T : Tb fa fn K mg h) {ns : List Int} (hp : Plk p) (hl : 0 < ns.length ∧ ns.length < 1000) : Def1 P w K mg base "_law_choose" 3 ["pool", "items"] [] (SpV [Sv (.ref a), Ls (ns.map PyData.int)] [(a, LsO (plO p))] [(a, LsO (plO (nxp p ns.length)))] (In (ns.getD (drp p ns.length).toNat 0))) := by
  have h := ok_choose (P := P) (w := w) (base := base) (a := a) T (ds := ns.map PyData.int) hp (by rw [List.length_map]; exact hl)
  have hb := drp_bd (p := p) (m := ns.length) (by omega)
  rw [List.length_map, getD_map (z := 0) (by omega)] at h
  exact h
theorem ok_divisor (T : Tb fa fn K mg h) {i j : Int} : Def1 P w K mg base "_law_divisor" 1 ["one", "two"] [] (SpV [In i, In j] [] [] (In (Int.gcd i j : Int))) :=
  D__law_divisor T fun fd F => fn_v F sc__law_divisor rfl fun cdv A outer s H E F0 hr =>
    hb_while (ι := { p : Int × Int // Int.gcd p.1 p.2 = Int.gcd i j }) (fun p => [some (In p.1.1), some (In p.1.2)]) (fun _ => []) (fun p => p.1.2.natAbs) ⟨(i, j), rfl⟩ .never (Sub.refl _) rfl (fun p => by
      obtain ⟨⟨a, b⟩, hg⟩ := p
      by_cases hb : b = 0
      · refine .inl ⟨(ht_is (ht_ne (he_var 1) he_int) (by simp [hb])), hb_stop (hs_ret ((he_is (he_abs (b_abs T) (ha_cons (he_var 0) ha_nil)) ?_)))⟩
        show PyData.int ((a.natAbs : Nat) : Int) = _
        have hg2 : Int.gcd a b = Int.gcd i j := hg
        rw [← hg2, hb, Int.gcd_zero_right]
      · refine .inr ⟨(ht_is (ht_ne (he_var 1) he_int) (by simp [hb])), ⟨(b, a.fmod b), (gcd_step a b).trans hg⟩, fmod_abs a hb, ?_⟩
        exact hb_cons (hs_par 0 1 rfl sc__law_divisor.nd (ha_cons (he_var 1) (ha_cons (he_modG (he_var 0) (he_var 1) hb) ha_nil))) hb_nil)
/-- an integer -/
def itV (p : Int × Int) : Int := if drp (nxp p 41) 5 = 0 then (drp p 41 - 20) * 10 ^ 28 + drp (nxp (nxp p 41) 5) 1000 else drp p 41 - 20
def itP (p : Int × Int) : Int × Int := if drp (nxp p 41) 5 = 0 then nxp (nxp (nxp p 41) 5) 1000 else nxp (nxp p 41) 5
theorem itP_ok (h : Plk p) : Plk (itP p) := by
  have h1 := nxp_ok (m := 41) h (by decide)
  have h2 := nxp_ok (m := 5) h1 (by decide)
  unfold itP
  split
  · exact nxp_ok h2 (by decide)
  · exact h2
theorem itV_bd (p : Int × Int) : -(2 ^ 98) < itV p ∧ itV p < 2 ^ 98 := by
  have h1 := drp_bd (p := p) (m := 41) (by decide)
  have h2 := drp_bd (p := nxp (nxp p 41) 5) (m := 1000) (by decide)
  unfold itV
  generalize drp p 41 = x at h1
  generalize drp (nxp (nxp p 41) 5) 1000 = y at h2
  split <;> omega
theorem ok_integer (T : Tb fa fn K mg h) (hp : Plk p) : Def1 P w K mg base "_law_integer" 3 ["pool"] [] (SpV [Sv (.ref a)] [(a, LsO (plO p))] [(a, LsO (plO (itP p)))] (In (itV p))) :=
  D__law_integer T fun fd F => fn_v F sc__law_integer rfl fun cdv A outer s H E F0 hr => by
    have h1 := nxp_ok (m := 41) hp (by decide)
    have h2 := nxp_ok (m := 5) h1 (by decide)
    have d1 := drp_bd (p := p) (m := 41) (by decide)
    refine' hb_cons (hs_set 1 sc__law_integer.nd ?h166) ?k164
    case' h166 => refine' he_sub ?h167 ?h168
    case' h167 => refine' he_c (Oc := [_]) (Oc' := [_]) ?h169 ?h170 ?h171 ?h172
    case' h169 => refine' ha_cons ?h173 ?h174
    case' h173 => exact he_var 0
    case' h174 => refine' ha_cons ?h175 ?h176
    case' h175 => exact he_int
    case' h176 => exact ha_nil
    case' h171 => refine' ok_draw T ?z177 ?z178
    case' h170 => walk_at "sub"
    case' h172 => exact hr.mono (by decide)
    case' h168 => exact he_int
    case' z178 => try walk_at "side"
    case' z177 => try walk_at "side"
    try (first | (case' z178 => walk_at "side"))
    try (first | (case' z177 => walk_at "side"))
    by_cases h0 : drp (nxp p 41) 5 = 0
    · have e1 : itV p = (drp p 41 - 20) * 10 ^ 28 + drp (nxp (nxp p 41) 5) 1000 := if_pos h0
      have e2 : itP p = nxp (nxp (nxp p 41) 5) 1000 := if_pos h0
      rw [e1, e2]
      refine' hb_stop (hs_ret (he_is ?h181 ?q180))
      case' h181 => refine' he_ifT ?h182 ?z184 ?h183
      case' h182 => refine' ht_eq ?h185 ?h186
      case' h185 => refine' he_c (Oc := [_]) (Oc' := [_]) ?h187 ?h188 ?h189 ?h190
      case' h187 => refine' ha_cons ?h191 ?h192
      case' h191 => exact he_var 0
      case' h192 => refine' ha_cons ?h193 ?h194
      case' h193 => exact he_int
      case' h194 => exact ha_nil
      case' h189 => refine' ok_draw T ?z195 ?z196
      case' h188 => walk_at "sub"
      case' h190 => exact hr.mono (by decide)
      case' h186 => exact he_int
      case' h183 => refine' he_add ?h197 ?h198
      case' h197 => refine' he_mulS ?h199 ?h200 ?z201
      case' h199 => exact he_var 1
      case' h200 => refine' he_pow ?h202 ?h203 ?z204
      case' h202 => exact he_int
      case' h203 => exact he_int
      case' h198 => refine' he_c (Oc := [_]) (Oc' := [_]) ?h205 ?h206 ?h207 ?h208
      case' h205 => refine' ha_cons ?h209 ?h210
      case' h209 => exact he_var 0
      case' h210 => refine' ha_cons ?h211 ?h212
      case' h211 => exact he_int
      case' h212 => exact ha_nil
      case' h207 => refine' ok_draw T ?z213 ?z214
      case' h206 => walk_at "sub"
      case' h208 => exact hr.mono (by decide)
      case' z214 => try walk_at "side"
      case' z213 => try walk_at "side"
      case' z204 => try walk_at "side"
      case' z201 => try walk_at "side"
      case' z196 => try walk_at "side"
      case' z195 => try walk_at "side"
      case' z184 => try walk_at "side"
      try (first | (case' z214 => walk_at "side"))
      try (first | (case' z213 => walk_at "side"))
      try (first | (case' z204 => walk_at "side"))
      try (first | (case' z201 => walk_at "side"))
      try (first | (case' z196 => walk_at "side"))
      try (first | (case' z195 => walk_at "side"))
      try (first | (case' z184 => walk_at "side"))
      · exact decide_eq_true h0
      · rfl
    · have e1 : itV p = drp p 41 - 20 := if_neg h0
      have e2 : itP p = nxp (nxp p 41) 5 := if_neg h0
      rw [e1, e2]
      refine' hb_stop (hs_ret (he_is ?h217 ?q216))
      case' h217 => refine' he_ifF ?h218 ?z220 ?h219
      case' h218 => refine' ht_eq ?h221 ?h222
      case' h221 => refine' he_c (Oc := [_]) (Oc' := [_]) ?h223 ?h224 ?h225 ?h226
      case' h223 => refine' ha_cons ?h227 ?h228
      case' h227 => exact he_var 0
      case' h228 => refine' ha_cons ?h229 ?h230
      case' h229 => exact he_int
      case' h230 => exact ha_nil
      case' h225 => refine' ok_draw T ?z231 ?z232
      case' h224 => walk_at "sub"
      case' h226 => exact hr.mono (by decide)
      case' h222 => exact he_int
      case' h219 => exact he_var 1
      case' z232 => try walk_at "side"
      case' z231 => try walk_at "side"
      case' z220 => try walk_at "side"
      try (first | (case' z232 => walk_at "side"))
      try (first | (case' z231 => walk_at "side"))
      try (first | (case' z220 => walk_at "side"))
      · exact decide_eq_false h0
      · rfl
end
end Hd

namespace Hd
open PySem PySem.Spec PyProof.Rows L2 Tp Mq
local macro_rules | `(tactic| walk_at "sub") => `(tactic| repeat' (first | exact SubL.nil | refine' SubL.same ?_ | refine' SubL.cons nm_rat ?_ | refine' SubL.cons nm_int ?_ | refine' SubL.cons (nm_of (by assumption)) ?_ | refine' SubL.dfl (fun _ => .int _) ?_ | refine' SubL.cons (fun _ _ h => h) ?_))
local macro_rules | `(tactic| walk_at "ix") => `(tactic| first | exact IxOk.tup rfl | exact IxOk.lst rfl | exact IxOk.own (by first | assumption | exact List.mem_cons_self) rfl | exact IxOk.scrD (by constructor <;> omega) | exact IxOk.lstI (by constructor <;> omega) | exact IxOk.lstR (by constructor <;> omega) | refine' IxOk.scrD ?_ | refine' IxOk.lstI ?_ | refine' IxOk.lstR ?_ | refine' IxOk.lstD ?_ | refine' IxOk.tupD ?_)
local macro_rules | `(tactic| walk_at "ln") => `(tactic| first | exact LenOk.tup | exact LenOk.lst | exact LenOk.scr | exact LenOk.own (by first | assumption | exact List.mem_cons_self) | refine' LenOk.str ?_)
local macro_rules | `(tactic| walk_at "side") => `(tactic| first | assumption | decide | omega)
local macro_rules | `(tactic| walk_at "subc") => `(tactic| repeat' (first | exact Sub.nil | refine Sub.keep ?_ | refine Sub.forget ?_ | refine Sub.weak (fun _ _ h => h) ?_))
local macro_rules | `(tactic| walk_at "side") => `(tactic| first | assumption | exact ⟨by decide, by decide⟩ | exact Or.inl ⟨by omega, by omega⟩ | exact Or.inr ⟨by omega, by omega⟩ | omega | decide)
section
variable {P : Program} {w : World} {K : PySem.W.Frag} {mg : Str → Option Value} {base h : Heap} {a : Addr} {p : Int × Int}
def prT (p : Int × Int) : Int := itV p
def prB (p : Int × Int) : Int := 1 + (itV (itP p)).natAbs
def prQ (p : Int × Int) : Rat := Rat.divInt (prT p) (prB p)
def prP (p : Int × Int) : Int × Int := itP (itP p)
theorem prP_ok (h : Plk p) : Plk (prP p) := itP_ok (itP_ok h)
theorem prB_pos (p : Int × Int) : 0 < prB p := by unfold prB; omega
theorem prB_bd (p : Int × Int) : (prB p).natAbs < 2 ^ 99 := by
  have := itV_bd (itP p)
  unfold prB; omega
theorem prQ_sz (p : Int × Int) : Sz 99 (prQ p) := by
  have h1 := itV_bd p
  have h2 := prB_pos p
  have h3 := prB_bd p
  unfold prQ
  obtain ⟨d, hd⟩ : ∃ d : Nat, prB p = d := ⟨(prB p).toNat, by omega⟩
  rw [hd, Rat.divInt_ofNat]
  exact Sz.mk (by omega) (by unfold prT; omega) (by omega)
theorem ok_pair (T : Tb fa fn K mg h) (hp : Plk p) : Def1 P w K mg base "_law_pair" 5 ["pool"] [] (SpV [Sv (.ref a)] [(a, LsO (plO p))] [(a, LsO (plO (prP p)))] (Ls [.int (prQ p).num, .int (prQ p).den])) :=
  D__law_pair T fun fd F => fn_v F sc__law_pair rfl fun cdv A outer s H E F0 hr => by
    have hp2 := itP_ok hp
    refine' hb_cons (hs_par 1 2 rfl sc__law_pair.nd ?h51) ?k49
    case' h51 => refine' ha_cons ?h52 ?h53
    case' h52 => refine' he_c (Oc := [_]) (Oc' := [_]) ?h54 ?h55 ?h56 ?h57
    case' h54 => refine' ha_cons ?h58 ?h59
    case' h58 => exact he_var 0
    case' h59 => exact ha_nil
    case' h56 => refine' ok_integer T ?z60
    case' h55 => walk_at "sub"
    case' h57 => exact hr.mono (by decide)
    case' h53 => refine' ha_cons ?h61 ?h62
    case' h61 => refine' he_add ?h63 ?h64
    case' h63 => exact he_int
    case' h64 => refine' he_abs (b_abs T) ?h65
    first | (case' h65 => refine' ha_cons ?h66 ?h67) | (case' h64 => refine' ha_cons ?h66 ?h67)
    case' h66 => refine' he_c (Oc := [_]) (Oc' := [_]) ?h68 ?h69 ?h70 ?h71
    case' h68 => refine' ha_cons ?h72 ?h73
    case' h72 => exact he_var 0
    case' h73 => exact ha_nil
    case' h70 => refine' ok_integer T ?z74
    case' h69 => walk_at "sub"
    case' h71 => exact hr.mono (by decide)
    case' h67 => exact ha_nil
    case' h62 => exact ha_nil
    first | (case' z74 => try walk_at "side") | (case' h70 => try walk_at "side")
    first | (case' z60 => try walk_at "side") | (case' h56 => try walk_at "side")
    try (first | (case' z74 => walk_at "side") | (case' h70 => walk_at "side"))
    try (first | (case' z60 => walk_at "side") | (case' h56 => walk_at "side"))
    refine' hb_cons (hs_set 3 sc__law_pair.nd ?h77) ?k75
    case' h77 => refine' he_cp ?h78 ?h79 ?h80 ?h81
    case' h78 => refine' ha_cons ?h82 ?h83
    case' h82 => exact he_var 1
    case' h83 => refine' ha_cons ?h84 ?h85
    case' h84 => exact he_var 2
    case' h85 => exact ha_nil
    case' h80 => refine' ok_divisor T
    case' h79 => walk_at "sub"
    case' h81 => exact hr.mono (by decide)
    have e1 : (1 : Int) + ((itV (itP p)).natAbs : Int) = prB p := rfl
    rw [e1]
    have hb := prB_pos p
    have hb2 : prB p ≠ 0 := by omega
    have hS := gcd_sm (i := itV p) hb2 (Sm.of (prB_bd p) (by decide)) (s := 1) (.inl rfl)
    have hN := gcd_ne (i := itV p) hb2 (s := 1) (.inl rfl)
    have hL := hS.log hN
    have rp := ratio_parts (itV p) (prB p) hb2 1 (by rw [if_pos hb])
    rw [Int.mul_one] at hL hN rp
    refine' hb_stop (hs_ret (he_is ?h88 ?q87))
    case' h88 => refine' he_lst ?h89 ?h90
    case' h89 => refine' had_cons ?h91 ?h92
    case' h91 => refine' he_fdivG ?h93 ?h94 ?z95
    case' h93 => exact he_var 1
    case' h94 => exact he_var 3
    case' h92 => refine' had_cons ?h96 ?h97
    case' h96 => refine' he_fdivG ?h98 ?h99 ?z100
    case' h98 => exact he_var 2
    case' h99 => exact he_var 3
    case' h97 => exact had_nil
    case' h90 => exact Nat.le_of_ble_eq_true rfl
    case' z100 => try walk_at "side"
    case' z95 => try walk_at "side"
    try (first | (case' z100 => walk_at "side"))
    try (first | (case' z95 => walk_at "side"))
    · exact ⟨hN, hL⟩
    · exact ⟨hN, hL⟩
    rw [rp.1, rp.2]; rfl
/-- a number as it is handed over -/
def vlD (p : Int × Int) (q : Rat) : PyData := if q.den = 1 ∧ drp p 2 = 0 then .int q.num else ratD q
def vlP (p : Int × Int) (q : Rat) : Int × Int := if q.den = 1 then nxp p 2 else p
theorem vlD_num (p : Int × Int) (q : Rat) : IsNum (vlD p q) q := by
  unfold vlD
  split
  · rename_i z; exact .inl ⟨z.1, rfl⟩
  · exact .inr rfl
theorem vlP_ok {q : Rat} (h : Plk p) : Plk (vlP p q) := by
  unfold vlP
  split
  · exact nxp_ok h (by decide)
  · exact h
theorem ok_value (T : Tb fa fn K mg h) {q : Rat} (hp : Plk p) : Def1 P w K mg base "_law_value" 3 ["pool", "pair"] [] (SpV [Sv (.ref a), Ls [.int q.num, .int q.den]] [(a, LsO (plO p))] [(a, LsO (plO (vlP p q)))] (Dv (vlD p q))) :=
  D__law_value T fun fd F => fn_v F sc__law_value rfl fun cdv A outer s H E F0 hr => by
    by_cases h1 : q.den = 1
    · have e1 : vlP p q = nxp p 2 := if_pos h1
      have hd1 : decide ((q.den : Int) = 1) = true := decide_eq_true (by omega)
      rw [e1]
      by_cases h2 : drp p 2 = 0
      · have e2 : vlD p q = .int q.num := if_pos ⟨h1, h2⟩
        rw [e2]
        refine' hb_stop (hs_ret (he_is (he_ifT (b := decide ((q.den : Int) = 1) && decide (drp p 2 = 0)) (O1 := [(a, LsO (plO (nxp p 2)))]) ?ta (by rw [hd1, decide_eq_true h2]; rfl) ?va) ?qa))
        case' ta => refine' ht_w (ht_and (b := decide ((q.den : Int) = 1)) (c := decide (drp p 2 = 0)) (O1 := [(a, LsO (plO p))]) ?t1a (fun _ => hw_and1 (ht_eq (he_c (Oc := [_]) (Oc' := [_]) (ha_cons (he_var 0) (ha_cons he_int ha_nil)) (by walk_at "sub") (ok_draw T hp ⟨by decide, by decide⟩) (hr.mono (by decide))) he_int)) (fun z => by rw [hd1] at z; cases z))
        case' ta => exact ht_eq (he_ix (he_var 1) he_int (IxOk.lst rfl)) he_int
        case' va => exact he_ix (he_var 1) he_int (IxOk.lst rfl)
        rfl
      · have e2 : vlD p q = ratD q := if_neg fun z => h2 z.2
        rw [e2]
        refine' hb_stop (hs_ret (he_is (he_ifF (b := decide ((q.den : Int) = 1) && decide (drp p 2 = 0)) (O1 := [(a, LsO (plO (nxp p 2)))]) ?tb (by rw [decide_eq_false h2, Bool.and_false]) ?vb) ?qb))
        case' tb => refine' ht_w (ht_and (b := decide ((q.den : Int) = 1)) (c := decide (drp p 2 = 0)) (O1 := [(a, LsO (plO p))]) ?t1b (fun _ => hw_and1 (ht_eq (he_c (Oc := [_]) (Oc' := [_]) (ha_cons (he_var 0) (ha_cons he_int ha_nil)) (by walk_at "sub") (ok_draw T hp ⟨by decide, by decide⟩) (hr.mono (by decide))) he_int)) (fun z => by rw [hd1] at z; cases z))
        case' tb => exact ht_eq (he_ix (he_var 1) he_int (IxOk.lst rfl)) he_int
        case' vb => exact he_tup (had_cons (he_ix (he_var 1) he_int (IxOk.lst rfl)) (had_cons (he_ix (he_var 1) he_int (IxOk.lst rfl)) had_nil)) (Nat.le_of_ble_eq_true rfl)
        rfl
    · have e1 : vlP p q = p := if_neg h1
      have e2 : vlD p q = ratD q := if_neg fun z => h1 z.1
      rw [e1, e2]
      refine' hb_stop (hs_ret (he_is ?h109 ?q108))
      case' h109 => refine' he_ifF ?h110 ?z112 ?h111
      case' h110 => refine' ht_w ?h113
      first | (case' h113 => refine' ht_andF ?h114 ?z115) | (case' h110 => refine' ht_andF ?h114 ?z115)
      case' h114 => refine' ht_eq ?h116 ?h117
      case' h116 => refine' he_ix ?h118 ?h119 ?h120
      case' h118 => exact he_var 1
      case' h119 => exact he_int
      case' h120 => walk_at "ix"
      case' h117 => exact he_int
      case' h111 => refine' he_tup ?h121 ?h122
      case' h121 => refine' had_cons ?h123 ?h124
      case' h123 => refine' he_ix ?h125 ?h126 ?h127
      case' h125 => exact he_var 1
      case' h126 => exact he_int
      case' h127 => walk_at "ix"
      case' h124 => refine' had_cons ?h128 ?h129
      case' h128 => refine' he_ix ?h130 ?h131 ?h132
      case' h130 => exact he_var 1
      case' h131 => exact he_int
      case' h132 => walk_at "ix"
      case' h129 => exact had_nil
      case' h122 => exact Nat.le_of_ble_eq_true rfl
      case' z115 => try walk_at "side"
      case' z112 => try walk_at "side"
      try (first | (case' z115 => walk_at "side"))
      try (first | (case' z112 => walk_at "side"))
      · exact decide_eq_false (by omega)
      all_goals rfl
theorem ok_is (T : Tb fa fn K mg h) {q : Rat} {t b : Int} {m n : Nat} (hq : Sz m q) (ht : t.natAbs < 2 ^ n) (hb : b.natAbs < 2 ^ n) (hmn : m + n < 100000) (he : q.num * b = t * q.den) : Def1 P w K mg base "_law_is" 5 ["found", "top", "bottom"] [] (SpV [Rt q, In t, In b] [] [] (Bo true)) :=
  D__law_is T fun fd F => fn_v F sc__law_is rfl fun cdv A outer s H E F0 hr => by
    refine' hb_stop (hs_ret (he_is ?h141 ?q140))
    case' h141 => refine' he_and ?h142 (fun hb144 => ?h143) (fun _ => rfl)
    case' h142 => refine' he_cp ?h145 ?h146 ?h147 ?h148
    case' h145 => refine' ha_cons ?h149 ?h150
    case' h149 => exact he_var 0
    case' h150 => exact ha_nil
    case' h147 => refine' ok_is_ratio T
    case' h146 => walk_at "sub"
    case' h148 => exact hr.mono (by decide)
    case' h143 => refine' he_one ?h151
    first | (case' h151 => refine' he_eq ?h152 ?h153) | (case' h143 => refine' he_eq ?h152 ?h153)
    case' h152 => refine' he_mul ?h154 ?h155 ?z156
    case' h154 => refine' he_ix ?h157 ?h158 ?h159
    case' h157 => exact he_var 0
    case' h158 => exact he_int
    case' h159 => walk_at "ix"
    case' h155 => exact he_var 2
    case' h153 => refine' he_mul ?h160 ?h161 ?z162
    case' h160 => exact he_var 1
    case' h161 => refine' he_ix ?h163 ?h164 ?h165
    case' h163 => exact he_var 0
    case' h164 => exact he_int
    case' h165 => walk_at "ix"
    case' z162 => try walk_at "side"
    case' z156 => try walk_at "side"
    try (first | (case' z162 => walk_at "side"))
    try (first | (case' z156 => walk_at "side"))
    · exact cmulW (Szn hq) hb (by omega)
    · exact cmulW ht (Szd hq) (by omega)
    rw [decide_eq_true he]; rfl
end
end Hd

namespace Hd
open PySem PySem.Spec PyProof.Rows L2 Tp Mq
local macro_rules | `(tactic| walk_at "sub") => `(tactic| repeat' (first | exact SubL.nil | refine' SubL.same ?_ | refine' SubL.cons nm_rat ?_ | refine' SubL.cons nm_int ?_ | refine' SubL.cons (nm_of (by assumption)) ?_ | refine' SubL.dfl (fun _ => .int _) ?_ | refine' SubL.cons (fun _ _ h => h) ?_))
local macro_rules | `(tactic| walk_at "ix") => `(tactic| first | exact IxOk.tup rfl | exact IxOk.lst rfl | exact IxOk.own (by first | assumption | exact List.mem_cons_self) rfl | exact IxOk.scrD (by constructor <;> omega) | exact IxOk.lstI (by constructor <;> omega) | exact IxOk.lstR (by constructor <;> omega) | refine' IxOk.scrD ?_ | refine' IxOk.lstI ?_ | refine' IxOk.lstR ?_ | refine' IxOk.lstD ?_ | refine' IxOk.tupD ?_)
local macro_rules | `(tactic| walk_at "ln") => `(tactic| first | exact LenOk.tup | exact LenOk.lst | exact LenOk.scr | exact LenOk.own (by first | assumption | exact List.mem_cons_self) | refine' LenOk.str ?_)
local macro_rules | `(tactic| walk_at "side") => `(tactic| first | assumption | decide | omega)
local macro_rules | `(tactic| walk_at "subc") => `(tactic| repeat' (first | exact Sub.nil | refine Sub.keep ?_ | refine Sub.forget ?_ | refine Sub.weak (fun _ _ h => h) ?_))
local macro_rules | `(tactic| walk_at "side") => `(tactic| first | assumption | exact ⟨by decide, by decide⟩ | exact Or.inl ⟨by omega, by omega⟩ | exact Or.inr ⟨by omega, by omega⟩ | omega | decide)
/-- data that may be displayed -/
structure Shw (d : PyData) (wt dp : Nat) : Prop where
  s : d.showable = true
  n : d.hasDict = false
  l : d.leavesShort 2000 = true
  w : d.weight ≤ wt
  d : d.depth ≤ dp
theorem shw_int {i : Int} (h : i.natAbs < 2 ^ 100) : Shw (.int i) 101 0 := by
  have hl : i.natAbs.log2 ≤ 100 := log_le h
  have hl2 : i.natAbs.log2 < 1920 := by omega
  refine ⟨by simp only [PyData.showable]; exact decide_eq_true hl2, by simp only [PyData.hasDict], ?_, ?_, by simp [PyData.depth]⟩
  · have := int_text_len_1921 hl2
    simp only [PyData.leavesShort, PyData.shown, decide_eq_true_eq]
    exact decide_eq_true (Nat.le_trans this (by decide : 1921 ≤ 2000))
  · simp [PyData.weight]
    split <;> omega
theorem shw_rat {q : Rat} (h : Sz 100 q) : Shw (ratD q) 204 1 := by
  have a := shw_int (Szn h)
  have b := shw_int (Szd h)
  unfold ratD
  refine ⟨?_, ?_, ?_, ?_, ?_⟩
  · simp only [PyData.showable, PyData.showableAll, Bool.and_true, Bool.and_eq_true]
    exact ⟨by have := a.s; simpa only [PyData.showable] using this, by have := b.s; simpa only [PyData.showable] using this⟩
  · simp [PyData.hasDict, PyData.hasDictAll]
  · simp only [PyData.leavesShort, PyData.leavesShortAll, Bool.and_true, Bool.and_eq_true]
    exact ⟨by have := a.l; simpa only [PyData.leavesShort] using this, by have := b.l; simpa only [PyData.leavesShort] using this⟩
  · have a1 := a.w
    have b1 := b.w
    simp only [PyData.weight, PyData.weightAll] at a1 b1 ⊢
    omega
  · simp [PyData.depth, PyData.depthAll]
theorem shw_num {d : PyData} {q : Rat} (hd : IsNum d q) (h : Sz 99 q) : Shw d 204 1 := by
  have h2 := h.up (b := 100) (by decide)
  rcases hd with ⟨_, e⟩ | e
  · subst e
    obtain ⟨h1, h2, h3, h4, h5⟩ := shw_int (Szn h2)
    exact ⟨h1, h2, h3, by omega, by omega⟩
  · subst e; exact shw_rat h2
theorem shw_five {d1 d2 d3 d4 d5 : PyData} (h1 : Shw d1 204 1) (h2 : Shw d2 204 1) (h3 : Shw d3 204 1) (h4 : Shw d4 204 1) (h5 : Shw d5 204 1) : Shw (.list [d1, d2, d3, d4, d5]) 2000 2 := by
  obtain ⟨a1, a2, a3, a4, a5⟩ := h1
  obtain ⟨b1, b2, b3, b4, b5⟩ := h2
  obtain ⟨c1, c2, c3, c4, c5⟩ := h3
  obtain ⟨e1, e2, e3, e4, e5⟩ := h4
  obtain ⟨f1, f2, f3, f4, f5⟩ := h5
  refine ⟨?_, ?_, ?_, ?_, ?_⟩
  · simp only [PyData.showable, PyData.showableAll, a1, b1, c1, e1, f1]; rfl
  · simp only [PyData.hasDict, PyData.hasDictAll, a2, b2, c2, e2, f2]; rfl
  · simp only [PyData.leavesShort, PyData.leavesShortAll, a3, b3, c3, e3, f3]; rfl
  · simp only [PyData.weight, PyData.weightAll]; omega
  · simp only [PyData.depth, PyData.depthAll]; omega
theorem Shw.fits {d : PyData} {n : Nat} (h : Shw d 2000 n) : d.shown.length ≤ sizeLine := by
  have h1 := PyData.shown_le 2000 (by decide) d h.l
  have h2 := h.w
  rw [sizeLine_eq]
  have h3 : (2000 + 2) * d.weight ≤ (2000 + 2) * 2000 := Nat.mul_le_mul_left _ h2
  omega
/-! data equal to itself -/
theorem eqv_ratD (q : Rat) : PyData.eqv (ratD q) (ratD q) = true := by simp [ratD, PyData.eqv, PyData.eqvAll]
section
variable {P : Program} {w : World} {K : PySem.W.Frag} {mg : Str → Option Value} {base h : Heap} {a : Addr} {p : Int × Int}
theorem ok_sorted_right (T : Tb fa fn K mg h) {da db dc : PyData} {qa qb qc : Rat} (ha : IsNum da qa) (hb : IsNum db qb) (hc : IsNum dc qc) (za : Sz 99 qa) (zb : Sz 99 qb) (zc : Sz 99 qc) :
    DefG P w K mg base "_law_sorted_right" 20 ["a", "b", "c"] [] (SpV [Dv da, Dv db, Dv dc] [] [] (Bo true)) :=
  DG__law_sorted_right T fun fd F => fng_v F sc__law_sorted_right rfl fun cdv A outer s H E F0 hr hgd => by
    have z0 : Sz 99 (((0 : Int) : Rat)) := Sz.int (by decide) (by decide)
    refine' hb_cons (hs_set 3 sc__law_sorted_right.nd ?h15) ?k13
    case' h15 => refine' he_lst ?h16 ?h17
    case' h16 => refine' had_cons ?h18 ?h19
    case' h18 => exact he_var 0
    case' h19 => refine' had_cons ?h20 ?h21
    case' h20 => exact he_var 1
    case' h21 => refine' had_cons ?h22 ?h23
    case' h22 => exact he_var 2
    case' h23 => refine' had_cons ?h24 ?h25
    case' h24 => exact he_var 0
    case' h25 => refine' had_cons ?h26 ?h27
    case' h26 => refine' he_cp ?h28 ?h29 ?h30 ?h31
    case' h28 => refine' ha_cons ?h32 ?h33
    case' h32 => exact he_var 1
    case' h33 => refine' ha_cons ?h34 ?h35
    case' h34 => exact he_int
    case' h35 => exact ha_nil
    case' h30 => refine' ok_plus T ?z36 ?z37 ?z38
    case' h29 => walk_at "sub"
    case' h31 => exact hr.mono (by decide)
    case' h27 => exact had_nil
    case' h17 => exact Nat.le_of_ble_eq_true rfl
    case' z38 => try walk_at "side"
    case' z37 => try walk_at "side"
    case' z36 => try walk_at "side"
    try (first | (case' z38 => walk_at "side"))
    try (first | (case' z37 => walk_at "side"))
    try (first | (case' z36 => walk_at "side"))
    rw [show qb + (((0 : Int) : Rat)) = qb from by rw [Rat.intCast_zero, Rat.add_zero]]
    have hsh := shw_five (shw_num ha za) (shw_num hb zb) (shw_num hc zc) (shw_num ha za) (shw_rat (zb.up (b := 100) (by decide)))
    have hu : A.units + 3 + ((PyData.list [da, db, dc, da, ratD qb]).depth + 1) < cLine := by
      have h1 := hr.units
      have h2 := hsh.d
      have h3 : (A.deeper (envOfC "_law_sorted_right" (defScope s__law_sorted_right) s.heap.objs.size (He.ga K "_law_sorted_right") cdv)).units = A.units + 3 := rfl
      rw [h3] at h1
      omega
    refine hb_cons (hs_set 4 sc__law_sorted_right.nd (he_repr (b_repr T) hgd hu (he_var 3) rfl hsh.s hsh.n hsh.fits)) ?_
    obtain ⟨rs, r1, r2, r3⟩ := rsort [qa, qb, qc, qa, qb]
    have r4 : rs.length ≤ 5 := r3
    have hnum : NumsOf [da, db, dc, da, ratD qb] [qa, qb, qc, qa, qb] := ⟨rfl, fun i hi => by
      match i, hi with
      | 0, _ => exact ha
      | 1, _ => exact hb
      | 2, _ => exact hc
      | 3, _ => exact ha
      | 4, _ => exact isNum_rat qb⟩
    have hsz : ∀ q ∈ [qa, qb, qc, qa, qb], Sz 99 q := fun q hq => by
      simp only [List.mem_cons, List.not_mem_nil, or_false] at hq
      rcases hq with e | e | e | e | e <;> (rw [e]; assumption)
    have hrs : ∀ i, i < rs.length → rs.getD i 0 ∈ rs := fun i hi => by
      rw [List.getD_eq_getElem?_getD, List.getElem?_eq_getElem hi]; exact List.getElem_mem _
    refine hb_cons (hs_set 5 sc__law_sorted_right.nd (he_cp (ha_cons (he_var 3) ha_nil) (SubL.same SubL.nil) (ok_in_order T (rs := rs) hnum hsz (show 99 * (5 + 1) ≤ 4000 by decide) (show 5 < 64 by decide) r1 r2 (by omega)) (hr.mono (by decide)))) ?_
    refine hb_ifF (ht_neS (he_repr (b_repr T) hgd hu (he_var 3) rfl hsh.s hsh.n hsh.fits) (he_var 4)) (by rw [decide_eq_true rfl]; rfl) ?_
    -- they stand in order
    have h5 : (5 : Nat) ≤ sizeLine := by decide
    refine hb_ifF (O1 := []) (b := !PyData.eqv (.list ((List.replicate (rs.length - 1) (-1 : Int)).map PyData.int)) (.list ((List.replicate (rs.length - 1) (-1 : Int)).map PyData.int))) (ht_neD (O1 := []) (O2 := []) hr.units ?l1 ?l2 (shaped_list canLay_int depth_int (by decide) _) (shaped_list canLay_int depth_int (by decide) _)) (by rw [eqv_list canLay_int]; rfl) ?_
    case l1 =>
      refine he_hl (hl_lc (own := [("at", 6)]) (n := rs.length - 1) (Y := fun i => In (0 + i)) (bb := fun _ => true) (f := fun _ => .int (-1)) (Ct := fun i => [some (Dv da), some (Dv db), some (Dv dc), some (Ls [da, db, dc, da, ratD qb]), some (St' (PyData.list [da, db, dc, da, ratD qb]).shown), some (Ls (rs.map ratD)), some (In (0 + i))]) (Oi := fun _ => []) rfl sc__law_sorted_right.nd ?it (blkOk_by rfl) ⟨?g1, ?t1, ?e1, fun _ _ _ => rfl⟩ (by omega) ?ac)
      case it =>
        refine (hi_range1 (j := (rs.length : Int) - 1) (b_range T) (ha_cons (he_sub ?ll he_int) ha_nil) (by omega)).cast (by omega) fun _ _ => rfl
        case ll => exact he_is (he_len (b_len T) (he_var 5) LenOk.lst) (by rw [List.length_map])
      case g1 => exact fun i hi s H C0 cl fp => hgw_name 6 sc__law_sorted_right.nd
      case t1 => exact fun i hi s H C0 cl fp a ds => hts_nil
      case e1 =>
        intro i hi _ s H C0 cl fp a ds'
        have m1 := hsz _ ((r2 _).mp (hrs i (by omega)))
        have m2 := hsz _ ((r2 _).mp (hrs (i + 1) (by omega)))
        have e0 : ((0 : Int) + (i : Int)).toNat = i := by omega
        have e1 : ((0 : Int) + (i : Int) + 1).toNat = i + 1 := by omega
        rw [← e0] at m1
        rw [← e1] at m2
        refine' he_is ?h44 ?q43
        case' h44 => refine' he_cp ?h45 ?h46 ?h47 ?h48
        case' h45 => refine' ha_cons ?h49 ?h50
        case' h49 => refine' he_ix ?h51 ?h52 ?h53
        case' h51 => exact he_var 5
        case' h52 => exact he_var 6
        case' h53 => walk_at "ix"
        case' h50 => refine' ha_cons ?h54 ?h55
        case' h54 => refine' he_ix ?h56 ?h57 ?h58
        case' h56 => exact he_var 5
        case' h57 => refine' he_add ?h59 ?h60
        case' h59 => exact he_var 6
        case' h60 => exact he_int
        case' h58 => walk_at "ix"
        case' h55 => exact ha_nil
        case' h47 => refine' ok_compare T ?z61 ?z62 ?z63
        case' h46 => walk_at "sub"
        case' h48 => exact hr.mono (by decide)
        case' z63 => try walk_at "side"
        case' z62 => try walk_at "side"
        case' z61 => try walk_at "side"
        try (first | (case' z63 => walk_at "side"))
        try (first | (case' z62 => walk_at "side"))
        try (first | (case' z61 => walk_at "side"))
        have hlt : rs.getD i 0 < rs.getD (i + 1) 0 := by
          rw [List.getD_eq_getElem?_getD, List.getD_eq_getElem?_getD, List.getElem?_eq_getElem (by omega : i < rs.length), List.getElem?_eq_getElem (by omega : i + 1 < rs.length)]
          exact List.pairwise_iff_getElem.mp r1 i (i + 1) (by omega) (by omega) (by omega)
        rw [e0, e1, cmpQ, if_pos hlt]
      case ac =>
        rw [accL_all _ _ _ fun _ _ => rfl, List.map_replicate]
        exact List.eq_replicate_iff.mpr ⟨by simp, by simp⟩
    case l2 =>
      refine he_is (he_rep (ds := [.int (-1)]) (he_lst (had_cons (he_neg he_int) had_nil) (Nat.le_of_ble_eq_true rfl)) (n := (rs.length : Int) - 1) (he_sub ?ll2 he_int) (by omega) ?zz) ?q2
      case ll2 => exact he_is (he_len (b_len T) (he_var 5) LenOk.lst) (by rw [List.length_map])
      case zz =>
        show 1 * ((rs.length : Int) - 1).toNat ≤ sizeLine
        omega
      case q2 =>
        have : ((rs.length : Int) - 1).toNat = rs.length - 1 := by omega
        rw [this]
        simp
    -- the same as the set's
    let nd : Rat → Int × Int := fun q => (q.num, (q.den : Int))
    have ndr : ∀ xs : List Rat, xs.map ratD = (xs.map nd).map prD := fun xs => by rw [List.map_map]; rfl
    have ndi : ∀ p q : Rat, nd p = nd q → p = q := fun p q e => by
      have e1 : p.num = q.num := congrArg Prod.fst e
      have e2 : (p.den : Int) = q.den := congrArg Prod.snd e
      exact Rat.ext e1 (by omega)
    obtain ⟨ss, s1, s2⟩ := lex_sort (rs.map nd)
    have hnd : ss.Nodup := s1.nodup_iff.mpr (List.pairwise_map.mpr (r1.imp fun {x y} h e => Rat.ne_of_lt h (ndi _ _ e)))
    refine hb_ifF (O1 := []) (b := !PyData.eqv (.list (ss.map prD)) (.list (ss.map prD))) (ht_neD (O1 := []) (O2 := []) hr.units (he_hl (hl_sortP (b_sorted T) (ps := rs.map nd) ?m1 s1 s2)) (he_hl (hl_sortSetP (b_sorted T) (b_set T) rfl hr.units (ps := [qa, qb, qc].map nd) ?m2 (show 3 < 64 by decide) s2 hnd ?m3)) (shaped_list canLay_prD depth_prD (by decide) _) (shaped_list canLay_prD depth_prD (by decide) _)) (by rw [eqv_list canLay_prD]; rfl) ?_
    case m1 => exact (he_var 5 : HE _ _ _ _ _ (Ls (rs.map ratD)) _).cast (by rw [ndr])
    case m2 =>
      have z1 : qa + (((0 : Int) : Rat)) = qa := by rw [Rat.intCast_zero, Rat.add_zero]
      have z2 : qb + (((0 : Int) : Rat)) = qb := by rw [Rat.intCast_zero, Rat.add_zero]
      have z3 : qc + (((0 : Int) : Rat)) = qc := by rw [Rat.intCast_zero, Rat.add_zero]
      refine he_lst (had_cons (he_is (he_cp (ha_cons (he_var 0) (ha_cons he_int ha_nil)) (SubL.cons (nm_of ha) (SubL.cons nm_int SubL.nil)) (ok_plus T za z0 (by decide)) (hr.mono (by decide))) ?w1) (had_cons (he_is (he_cp (ha_cons (he_var 1) (ha_cons he_int ha_nil)) (SubL.cons (nm_of hb) (SubL.cons nm_int SubL.nil)) (ok_plus T zb z0 (by decide)) (hr.mono (by decide))) ?w2) (had_cons (he_is (he_cp (ha_cons (he_var 2) (ha_cons he_int ha_nil)) (SubL.cons (nm_of hc) (SubL.cons nm_int SubL.nil)) (ok_plus T zc z0 (by decide)) (hr.mono (by decide))) ?w3) had_nil))) (Nat.le_of_ble_eq_true rfl)
      case w1 => rw [z1]; rfl
      case w2 => rw [z2]; rfl
      case w3 => rw [z3]; rfl
    case m3 =>
      intro z
      rw [s1.mem_iff, List.mem_map, List.mem_map]
      constructor
      · rintro ⟨q, h1, h2⟩
        refine ⟨q, ?_, h2⟩
        have := (r2 q).mp h1
        simp only [List.mem_cons, List.not_mem_nil, or_false] at this ⊢
        rcases this with e | e | e | e | e <;> simp [e]
      · rintro ⟨q, h1, h2⟩
        refine ⟨q, (r2 q).mpr ?_, h2⟩
        simp only [List.mem_cons, List.not_mem_nil, or_false] at h1 ⊢
        rcases h1 with e | e | e <;> simp [e]
    refine' hb_stop (hs_ret (he_is ?h69 ?q68))
    case' h69 => exact he_bl
    rfl
end
end Hd

namespace Hd
open PySem PySem.Spec PyProof.Rows L2 Tp Mq
local macro_rules | `(tactic| walk_at "sub") => `(tactic| repeat' (first | exact SubL.nil | refine' SubL.same ?_ | refine' SubL.cons nm_rat ?_ | refine' SubL.cons nm_int ?_ | refine' SubL.cons (nm_of (by assumption)) ?_ | refine' SubL.dfl (fun _ => .int _) ?_ | refine' SubL.cons (fun _ _ h => h) ?_))
local macro_rules | `(tactic| walk_at "ix") => `(tactic| first | exact IxOk.tup rfl | exact IxOk.lst rfl | exact IxOk.own (by first | assumption | exact List.mem_cons_self) rfl | exact IxOk.scrD (by constructor <;> omega) | exact IxOk.lstI (by constructor <;> omega) | exact IxOk.lstR (by constructor <;> omega) | refine' IxOk.scrD ?_ | refine' IxOk.lstI ?_ | refine' IxOk.lstR ?_ | refine' IxOk.lstD ?_ | refine' IxOk.tupD ?_)
local macro_rules | `(tactic| walk_at "ln") => `(tactic| first | exact LenOk.tup | exact LenOk.lst | exact LenOk.scr | exact LenOk.own (by first | assumption | exact List.mem_cons_self) | refine' LenOk.str ?_)
local macro_rules | `(tactic| walk_at "side") => `(tactic| first | assumption | decide | omega)
local macro_rules | `(tactic| walk_at "subc") => `(tactic| repeat' (first | exact Sub.nil | refine Sub.keep ?_ | refine Sub.forget ?_ | refine Sub.weak (fun _ _ h => h) ?_))
local macro_rules | `(tactic| walk_at "side") => `(tactic| first | assumption | exact shaped_rat _ | exact shaped_pr _ _ | exact ⟨by decide, by decide⟩ | exact Or.inl ⟨by omega, by omega⟩ | exact Or.inr ⟨by omega, by omega⟩ | omega | decide)
theorem sgn_bd (j : Int) (h : 0 ≤ j ∧ j < 4) : ([1, -1, 3, -6].getD j.toNat (0 : Int)) ≠ 0 ∧ ([1, -1, 3, -6].getD j.toNat (0 : Int)).natAbs < 2 ^ 3 := by
  have : j = 0 ∨ j = 1 ∨ j = 2 ∨ j = 3 := by omega
  rcases this with e | e | e | e <;> (subst e; decide)
section
variable {P : Program} {w : World} {K : PySem.W.Frag} {mg : Str → Option Value} {base h : Heap}
theorem ok_law (T : Tb fa fn K mg h) {ns : List Int} (fd : FuncData) (F : FunD K "law" "law" (defArgs s_law) (defBody s_law) (defScope s_law) [] [] (He.ga K "law") fd) : FnG P w K mg base (L2.CX P w) 30 (He.ga K "law") fd ["script"] (SpV [Scr K ns] [] [] (Bo true)) :=
  fng_v F sc_law rfl fun cdv A outer s H E F0 hr hgd => by
    have hn : (max 1 (min (ns.length : Int) 20)).toNat ≤ 20 := by omega
    refine hb_for (n := (max 1 (min (ns.length : Int) 20)).toNat) (Y := fun i => In (0 + i)) rfl .never (hi_range1 (b_range T) (ha_cons (he_max (b_max T) rfl (ha_cons he_int (ha_cons (he_min (b_min T) rfl (ha_cons (he_len (b_len T) (he_var 0) LenOk.scr) (ha_cons he_int ha_nil))) ha_nil))) ha_nil) (by omega))
      (fun i => [some (Scr K ns), none, none, none, none, none, none, none, none, none, none, none, none, none, none]) (fun i => [some (Scr K ns), some (In (0 + i)), none, none, none, none, none, none, none, none, none, none, none, none, none]) (fun _ => []) (max 1 (min (ns.length : Int) 20)).toNat (Nat.le_refl _) ?sub rfl ?hg ?hb (.inl ⟨rfl, ?kk⟩)
    case sub => walk_at "subc"
    case hg => exact fun i hi => hg_name 1 sc_law.nd
    case kk =>
      refine hb_stop (hs_ret (he_is (he_eqD (O1 := []) (O2 := []) (d := .list []) (d' := .list []) hr.units (he_cp (ha_cons (he_lst had_nil (Nat.zero_le _)) ha_nil) (SubL.same SubL.nil) (ok_in_order T (qs := []) (rs := []) (k := 0) ⟨rfl, fun i hi => absurd hi (Nat.not_lt_zero _)⟩ (fun q hq => by cases hq) (by decide) (by decide) .nil (fun q => Iff.rfl) (by decide)) (hr.mono (by decide))) (he_lst had_nil (Nat.zero_le _)) rfl rfl) rfl))
    case hb =>
      intro k hk0
      have hk : k < 20 := by omega
      rw [Int.zero_add]
      refine hb_setL 2 sc_law.nd (hl_cp (ha_cons (he_var 0) (ha_cons (he_var 1) ha_nil)) (SubL.same (SubL.same SubL.nil)) (ok_pool T hk) (hr.mono (by decide))) fun a hna => ?_
      have o0 := pl0_ok ns k
      generalize pl0 ns k = p0 at o0
      have o1 := prP_ok o0
      have o2 := prP_ok o1
      have o3 := prP_ok o2
      have z1 := prQ_sz p0
      have z2 := prQ_sz (prP p0)
      have z3 := prQ_sz (prP (prP p0))
      refine' hb_cons (hs_par3 3 4 5 rfl sc_law.nd ?h57) ?k55
      case' h57 => refine' ha_cons ?h58 ?h59
      case' h58 => refine' he_c (Oc := [_]) (Oc' := [_]) ?h60 ?h61 ?h62 ?h63
      case' h60 => refine' ha_cons ?h64 ?h65
      case' h64 => exact he_var 2
      case' h65 => exact ha_nil
      case' h62 => refine' ok_pair T ?z66
      case' h61 => walk_at "sub"
      case' h63 => exact hr.mono (by decide)
      case' h59 => refine' ha_cons ?h67 ?h68
      case' h67 => refine' he_c (Oc := [_]) (Oc' := [_]) ?h69 ?h70 ?h71 ?h72
      case' h69 => refine' ha_cons ?h73 ?h74
      case' h73 => exact he_var 2
      case' h74 => exact ha_nil
      case' h71 => refine' ok_pair T ?z75
      case' h70 => walk_at "sub"
      case' h72 => exact hr.mono (by decide)
      case' h68 => refine' ha_cons ?h76 ?h77
      case' h76 => refine' he_c (Oc := [_]) (Oc' := [_]) ?h78 ?h79 ?h80 ?h81
      case' h78 => refine' ha_cons ?h82 ?h83
      case' h82 => exact he_var 2
      case' h83 => exact ha_nil
      case' h80 => refine' ok_pair T ?z84
      case' h79 => walk_at "sub"
      case' h81 => exact hr.mono (by decide)
      case' h77 => exact ha_nil
      first | (case' z84 => try walk_at "side") | (case' h80 => try walk_at "side")
      first | (case' z75 => try walk_at "side") | (case' h71 => try walk_at "side")
      first | (case' z66 => try walk_at "side") | (case' h62 => try walk_at "side")
      try (first | (case' z84 => walk_at "side") | (case' h80 => walk_at "side"))
      try (first | (case' z75 => walk_at "side") | (case' h71 => walk_at "side"))
      try (first | (case' z66 => walk_at "side") | (case' h62 => walk_at "side"))
      generalize prQ p0 = q1 at z1
      generalize prQ (prP p0) = q2 at z2
      generalize prQ (prP (prP p0)) = q3 at z3
      generalize prP (prP (prP p0)) = p3 at o3
      have o4 := vlP_ok (q := q1) o3
      have o5 := vlP_ok (q := q2) o4
      have o6 := vlP_ok (q := q3) o5
      have n1 := vlD_num p3 q1
      have n2 := vlD_num (vlP p3 q1) q2
      have n3 := vlD_num (vlP (vlP p3 q1) q2) q3
      refine' hb_cons (hs_par3 6 7 8 rfl sc_law.nd ?h87) ?k85
      case' h87 => refine' ha_cons ?h88 ?h89
      case' h88 => refine' he_c (Oc := [_]) (Oc' := [_]) ?h90 ?h91 ?h92 ?h93
      case' h90 => refine' ha_cons ?h94 ?h95
      case' h94 => exact he_var 2
      case' h95 => refine' ha_cons ?h96 ?h97
      case' h96 => exact he_var 3
      case' h97 => exact ha_nil
      case' h92 => refine' ok_value T ?z98
      case' h91 => walk_at "sub"
      case' h93 => exact hr.mono (by decide)
      case' h89 => refine' ha_cons ?h99 ?h100
      case' h99 => refine' he_c (Oc := [_]) (Oc' := [_]) ?h101 ?h102 ?h103 ?h104
      case' h101 => refine' ha_cons ?h105 ?h106
      case' h105 => exact he_var 2
      case' h106 => refine' ha_cons ?h107 ?h108
      case' h107 => exact he_var 4
      case' h108 => exact ha_nil
      case' h103 => refine' ok_value T ?z109
      case' h102 => walk_at "sub"
      case' h104 => exact hr.mono (by decide)
      case' h100 => refine' ha_cons ?h110 ?h111
      case' h110 => refine' he_c (Oc := [_]) (Oc' := [_]) ?h112 ?h113 ?h114 ?h115
      case' h112 => refine' ha_cons ?h116 ?h117
      case' h116 => exact he_var 2
      case' h117 => refine' ha_cons ?h118 ?h119
      case' h118 => exact he_var 5
      case' h119 => exact ha_nil
      case' h114 => refine' ok_value T ?z120
      case' h113 => walk_at "sub"
      case' h115 => exact hr.mono (by decide)
      case' h111 => exact ha_nil
      first | (case' z120 => try walk_at "side") | (case' h114 => try walk_at "side")
      first | (case' z109 => try walk_at "side") | (case' h103 => try walk_at "side")
      first | (case' z98 => try walk_at "side") | (case' h92 => try walk_at "side")
      try (first | (case' z120 => walk_at "side") | (case' h114 => walk_at "side"))
      try (first | (case' z109 => walk_at "side") | (case' h103 => walk_at "side"))
      try (first | (case' z98 => walk_at "side") | (case' h92 => walk_at "side"))
      generalize vlD p3 q1 = d1 at n1
      generalize vlD (vlP p3 q1) q2 = d2 at n2
      generalize vlD (vlP (vlP p3 q1) q2) q3 = d3 at n3
      generalize vlP (vlP (vlP p3 q1) q2) q3 = p6 at o6
      refine' hb_cons (hs_set 9 sc_law.nd ?h123) ?k121
      case' h123 => refine' he_c (Oc := [_]) (Oc' := [_]) ?h124 ?h125 ?h126 ?h127
      case' h124 => refine' ha_cons ?h128 ?h129
      case' h128 => exact he_var 2
      case' h129 => refine' ha_cons ?h130 ?h131
      case' h130 => refine' he_lst ?h132 ?h133
      case' h132 => refine' had_cons ?h134 ?h135
      case' h134 => exact he_int
      case' h135 => refine' had_cons ?h136 ?h137
      case' h136 => refine' he_neg ?h138
      first | (case' h138 => exact he_int) | (case' h136 => exact he_int)
      case' h137 => refine' had_cons ?h139 ?h140
      case' h139 => exact he_int
      case' h140 => refine' had_cons ?h141 ?h142
      case' h141 => refine' he_neg ?h143
      first | (case' h143 => exact he_int) | (case' h141 => exact he_int)
      case' h142 => exact had_nil
      case' h133 => exact Nat.le_of_ble_eq_true rfl
      case' h131 => exact ha_nil
      case' h126 => refine' ok_chooseI (ns:=[1,-1,3,-6]) T ?z144 ?z145
      case' h125 => walk_at "sub"
      case' h127 => exact hr.mono (by decide)
      case' z145 => try walk_at "side"
      case' z144 => try walk_at "side"
      try (first | (case' z145 => walk_at "side"))
      try (first | (case' z144 => walk_at "side"))
      have sg := sgn_bd (drp p6 4) (drp_bd (by decide))
      have e4 : (([1, -1, 3, -6] : List Int).length : Int) = 4 := rfl
      rw [e4]
      generalize hsg : ([1, -1, 3, -6] : List Int).getD (drp p6 4).toNat 0 = sg0 at sg
      generalize nxp p6 4 = p7
      have hd1 := den_ne q1
      have hd2 := den_ne q2
      have c0 : (q1.den : Int) * sg0 ≠ 0 := Int.mul_ne_zero hd1 sg.1
      have c1 : Rat.divInt (q1.num * sg0) (q1.den * sg0) = q1 := by
        rw [Rat.divInt_mul_right sg.1]; exact Rat.num_divInt_den q1
      have cs : Sm ((q1.den : Int) * sg0) := mul_sm (Szd z1) sg.2 (by decide)
      have cz : Sz 200 (Rat.divInt (q1.num * sg0) (q1.den * sg0)) := by rw [c1]; exact z1.up (by decide)
      have tn : q1.num.natAbs < 2 ^ 400 := Nat.lt_of_lt_of_le (Szn z1) (Nat.pow_le_pow_right (by decide) (by decide))
      have td : (q1.den : Int).natAbs < 2 ^ 400 := Nat.lt_of_lt_of_le (Szd z1) (Nat.pow_le_pow_right (by decide) (by decide))
      have ce : (Rat.divInt (q1.num * sg0) (q1.den * sg0)).num * q1.den = q1.num * (Rat.divInt (q1.num * sg0) (q1.den * sg0)).den := by rw [c1]
      have m1 : CMulW q1.num sg0 := cmulW (Szn z1) sg.2 (by decide)
      have m2 : CMulW (q1.den : Int) sg0 := cmulW (Szd z1) sg.2 (by decide)
      refine' hb_ifF ?h148 ?q147 ?k146
      case' h148 => refine' ht_not ?h149
      first | (case' h149 => refine' ht_val ?h150) | (case' h148 => refine' ht_val ?h150)
      first | (case' h150 => refine' he_cp ?h151 ?h152 ?h153 ?h154) | (case' h149 => refine' he_cp ?h151 ?h152 ?h153 ?h154) | (case' h148 => refine' he_cp ?h151 ?h152 ?h153 ?h154)
      case' h151 => refine' ha_cons ?h155 ?h156
      case' h155 => refine' he_cp ?h157 ?h158 ?h159 ?h160
      case' h157 => refine' ha_cons ?h161 ?h162
      case' h161 => refine' he_mul ?h163 ?h164 ?z165
      case' h163 => refine' he_ix ?h166 ?h167 ?h168
      case' h166 => exact he_var 3
      case' h167 => exact he_int
      case' h168 => walk_at "ix"
      case' h164 => exact he_var 9
      case' h162 => refine' ha_cons ?h169 ?h170
      case' h169 => refine' he_mul ?h171 ?h172 ?z173
      case' h171 => refine' he_ix ?h174 ?h175 ?h176
      case' h174 => exact he_var 3
      case' h175 => exact he_int
      case' h176 => walk_at "ix"
      case' h172 => exact he_var 9
      case' h170 => exact ha_nil
      case' h159 => refine' ok_ratio T ?z177 ?z178
      case' h158 => walk_at "sub"
      case' h160 => exact hr.mono (by decide)
      case' h156 => refine' ha_cons ?h179 ?h180
      case' h179 => refine' he_ix ?h181 ?h182 ?h183
      case' h181 => exact he_var 3
      case' h182 => exact he_int
      case' h183 => walk_at "ix"
      case' h180 => refine' ha_cons ?h184 ?h185
      case' h184 => refine' he_ix ?h186 ?h187 ?h188
      case' h186 => exact he_var 3
      case' h187 => exact he_int
      case' h188 => walk_at "ix"
      case' h185 => exact ha_nil
      case' h153 => refine' ok_is (m:=200) (n:=400) T ?z189 ?z190 ?z191 ?z192 ?z193
      case' h152 => walk_at "sub"
      case' h154 => exact hr.mono (by decide)
      case' z193 => try walk_at "side"
      case' z192 => try walk_at "side"
      case' z191 => try walk_at "side"
      case' z190 => try walk_at "side"
      case' z189 => try walk_at "side"
      case' z178 => try walk_at "side"
      case' z177 => try walk_at "side"
      case' z173 => try walk_at "side"
      case' z165 => try walk_at "side"
      try (first | (case' z193 => walk_at "side"))
      try (first | (case' z192 => walk_at "side"))
      try (first | (case' z191 => walk_at "side"))
      try (first | (case' z190 => walk_at "side"))
      try (first | (case' z189 => walk_at "side"))
      try (first | (case' z178 => walk_at "side"))
      try (first | (case' z177 => walk_at "side"))
      try (first | (case' z173 => walk_at "side"))
      try (first | (case' z165 => walk_at "side"))
      · rfl
      refine' hb_ifF ?h196 ?q195 ?k194
      case' h196 => refine' ht_neD hr.units ?h197 ?h198 ?z199 ?z200
      case' h197 => refine' he_cp ?h201 ?h202 ?h203 ?h204
      case' h201 => refine' ha_cons ?h205 ?h206
      case' h205 => refine' he_ix ?h207 ?h208 ?h209
      case' h207 => exact he_var 3
      case' h208 => exact he_int
      case' h209 => walk_at "ix"
      case' h206 => exact ha_nil
      case' h203 => refine' ok_ratio1 T
      case' h202 => walk_at "sub"
      case' h204 => exact hr.mono (by decide)
      case' h198 => refine' he_tup ?h210 ?h211
      case' h210 => refine' had_cons ?h212 ?h213
      case' h212 => refine' he_ix ?h214 ?h215 ?h216
      case' h214 => exact he_var 3
      case' h215 => exact he_int
      case' h216 => walk_at "ix"
      case' h213 => refine' had_cons ?h217 ?h218
      case' h217 => exact he_int
      case' h218 => exact had_nil
      case' h211 => exact Nat.le_of_ble_eq_true rfl
      case' z200 => try walk_at "side"
      case' z199 => try walk_at "side"
      try (first | (case' z200 => walk_at "side"))
      try (first | (case' z199 => walk_at "side"))
      · have e : ratD ((q1.num : Int) : Rat) = PyData.tuple [.int q1.num, .int 1] := rfl
        rw [e, eqv_pr]; rfl
      refine' hb_cons (hs_set 10 sc_law.nd ?h221) ?k219
      case' h221 => refine' he_mul ?h222 ?h223 ?z224
      case' h222 => refine' he_ix ?h225 ?h226 ?h227
      case' h225 => exact he_var 3
      case' h226 => exact he_int
      case' h227 => walk_at "ix"
      case' h223 => refine' he_ix ?h228 ?h229 ?h230
      case' h228 => exact he_var 4
      case' h229 => exact he_int
      case' h230 => walk_at "ix"
      case' z224 => try walk_at "side"
      · exact cmulW (Szd z1) (Szd z2) (by decide)
      have b0 : (q1.den : Int) * q2.den ≠ 0 := Int.mul_ne_zero hd1 hd2
      have b1 : ((q1.den : Int) * q2.den).natAbs < 2 ^ 400 := by rw [Int.natAbs_mul]; exact Nat.lt_of_lt_of_le (mul_lt (Szd z1) (Szd z2)) (Nat.pow_le_pow_right (by decide) (by decide))
      have w1 : CMulW q1.num q2.den := cmulW (Szn z1) (Szd z2) (by decide)
      have w2 : CMulW q2.num q1.den := cmulW (Szn z2) (Szd z1) (by decide)
      have w3 : CMulW q1.num q2.num := cmulW (Szn z1) (Szn z2) (by decide)
      have x1 : (q1.num * q2.den).natAbs < 2 ^ 198 := by rw [Int.natAbs_mul]; exact mul_lt (Szn z1) (Szd z2)
      have x2 : (q2.num * q1.den).natAbs < 2 ^ 198 := by rw [Int.natAbs_mul]; exact mul_lt (Szn z2) (Szd z1)
      have s1 : (q1.num * q2.den + q2.num * q1.den).natAbs < 2 ^ 400 := by omega
      have s2 : (q1.num * q2.den - q2.num * q1.den).natAbs < 2 ^ 400 := by omega
      have s3 : (q1.num * q2.num).natAbs < 2 ^ 400 := by rw [Int.natAbs_mul]; exact Nat.lt_of_lt_of_le (mul_lt (Szn z1) (Szn z2)) (Nat.pow_le_pow_right (by decide) (by decide))
      have y1 : Sz 200 (q1 + q2) := (z1.add z2).up (by decide)
      have y2 : Sz 200 (q1 - q2) := (z1.sub z2).up (by decide)
      have y3 : Sz 200 (q1 * q2) := (z1.mul z2).up (by decide)
      have k1 := cross b0 (add_parts q1 q2)
      have k2 := cross b0 (sub_parts q1 q2)
      have k3 := cross b0 (mul_parts q1 q2)
      refine' hb_ifF ?h233 ?q232 ?k231
      case' h233 => refine' ht_not ?h234
      first | (case' h234 => refine' ht_val ?h235) | (case' h233 => refine' ht_val ?h235)
      first | (case' h235 => refine' he_cp ?h236 ?h237 ?h238 ?h239) | (case' h234 => refine' he_cp ?h236 ?h237 ?h238 ?h239) | (case' h233 => refine' he_cp ?h236 ?h237 ?h238 ?h239)
      case' h236 => refine' ha_cons ?h240 ?h241
      case' h240 => refine' he_cp ?h242 ?h243 ?h244 ?h245
      case' h242 => refine' ha_cons ?h246 ?h247
      case' h246 => exact he_var 6
      case' h247 => refine' ha_cons ?h248 ?h249
      case' h248 => exact he_var 7
      case' h249 => exact ha_nil
      case' h244 => refine' ok_plus T ?z250 ?z251 ?z252
      case' h243 => walk_at "sub"
      case' h245 => exact hr.mono (by decide)
      case' h241 => refine' ha_cons ?h253 ?h254
      case' h253 => refine' he_add ?h255 ?h256
      case' h255 => refine' he_mul ?h257 ?h258 ?z259
      case' h257 => refine' he_ix ?h260 ?h261 ?h262
      case' h260 => exact he_var 3
      case' h261 => exact he_int
      case' h262 => walk_at "ix"
      case' h258 => refine' he_ix ?h263 ?h264 ?h265
      case' h263 => exact he_var 4
      case' h264 => exact he_int
      case' h265 => walk_at "ix"
      case' h256 => refine' he_mul ?h266 ?h267 ?z268
      case' h266 => refine' he_ix ?h269 ?h270 ?h271
      case' h269 => exact he_var 4
      case' h270 => exact he_int
      case' h271 => walk_at "ix"
      case' h267 => refine' he_ix ?h272 ?h273 ?h274
      case' h272 => exact he_var 3
      case' h273 => exact he_int
      case' h274 => walk_at "ix"
      case' h254 => refine' ha_cons ?h275 ?h276
      case' h275 => exact he_var 10
      case' h276 => exact ha_nil
      case' h238 => refine' ok_is (m:=200) (n:=400) T ?z277 ?z278 ?z279 ?z280 ?z281
      case' h237 => walk_at "sub"
      case' h239 => exact hr.mono (by decide)
      case' z281 => try walk_at "side"
      case' z280 => try walk_at "side"
      case' z279 => try walk_at "side"
      case' z278 => try walk_at "side"
      case' z277 => try walk_at "side"
      case' z268 => try walk_at "side"
      case' z259 => try walk_at "side"
      case' z252 => try walk_at "side"
      case' z251 => try walk_at "side"
      case' z250 => try walk_at "side"
      try (first | (case' z281 => walk_at "side"))
      try (first | (case' z280 => walk_at "side"))
      try (first | (case' z279 => walk_at "side"))
      try (first | (case' z278 => walk_at "side"))
      try (first | (case' z277 => walk_at "side"))
      try (first | (case' z268 => walk_at "side"))
      try (first | (case' z259 => walk_at "side"))
      try (first | (case' z252 => walk_at "side"))
      try (first | (case' z251 => walk_at "side"))
      try (first | (case' z250 => walk_at "side"))
      · rfl
      refine' hb_ifF ?h284 ?q283 ?k282
      case' h284 => refine' ht_not ?h285
      first | (case' h285 => refine' ht_val ?h286) | (case' h284 => refine' ht_val ?h286)
      first | (case' h286 => refine' he_cp ?h287 ?h288 ?h289 ?h290) | (case' h285 => refine' he_cp ?h287 ?h288 ?h289 ?h290) | (case' h284 => refine' he_cp ?h287 ?h288 ?h289 ?h290)
      case' h287 => refine' ha_cons ?h291 ?h292
      case' h291 => refine' he_cp ?h293 ?h294 ?h295 ?h296
      case' h293 => refine' ha_cons ?h297 ?h298
      case' h297 => exact he_var 6
      case' h298 => refine' ha_cons ?h299 ?h300
      case' h299 => exact he_var 7
      case' h300 => exact ha_nil
      case' h295 => refine' ok_minus T ?z301 ?z302 ?z303
      case' h294 => walk_at "sub"
      case' h296 => exact hr.mono (by decide)
      case' h292 => refine' ha_cons ?h304 ?h305
      case' h304 => refine' he_sub ?h306 ?h307
      case' h306 => refine' he_mul ?h308 ?h309 ?z310
      case' h308 => refine' he_ix ?h311 ?h312 ?h313
      case' h311 => exact he_var 3
      case' h312 => exact he_int
      case' h313 => walk_at "ix"
      case' h309 => refine' he_ix ?h314 ?h315 ?h316
      case' h314 => exact he_var 4
      case' h315 => exact he_int
      case' h316 => walk_at "ix"
      case' h307 => refine' he_mul ?h317 ?h318 ?z319
      case' h317 => refine' he_ix ?h320 ?h321 ?h322
      case' h320 => exact he_var 4
      case' h321 => exact he_int
      case' h322 => walk_at "ix"
      case' h318 => refine' he_ix ?h323 ?h324 ?h325
      case' h323 => exact he_var 3
      case' h324 => exact he_int
      case' h325 => walk_at "ix"
      case' h305 => refine' ha_cons ?h326 ?h327
      case' h326 => exact he_var 10
      case' h327 => exact ha_nil
      case' h289 => refine' ok_is (m:=200) (n:=400) T ?z328 ?z329 ?z330 ?z331 ?z332
      case' h288 => walk_at "sub"
      case' h290 => exact hr.mono (by decide)
      case' z332 => try walk_at "side"
      case' z331 => try walk_at "side"
      case' z330 => try walk_at "side"
      case' z329 => try walk_at "side"
      case' z328 => try walk_at "side"
      case' z319 => try walk_at "side"
      case' z310 => try walk_at "side"
      case' z303 => try walk_at "side"
      case' z302 => try walk_at "side"
      case' z301 => try walk_at "side"
      try (first | (case' z332 => walk_at "side"))
      try (first | (case' z331 => walk_at "side"))
      try (first | (case' z330 => walk_at "side"))
      try (first | (case' z329 => walk_at "side"))
      try (first | (case' z328 => walk_at "side"))
      try (first | (case' z319 => walk_at "side"))
      try (first | (case' z310 => walk_at "side"))
      try (first | (case' z303 => walk_at "side"))
      try (first | (case' z302 => walk_at "side"))
      try (first | (case' z301 => walk_at "side"))
      · rfl
      refine' hb_ifF ?h335 ?q334 ?k333
      case' h335 => refine' ht_not ?h336
      first | (case' h336 => refine' ht_val ?h337) | (case' h335 => refine' ht_val ?h337)
      first | (case' h337 => refine' he_cp ?h338 ?h339 ?h340 ?h341) | (case' h336 => refine' he_cp ?h338 ?h339 ?h340 ?h341) | (case' h335 => refine' he_cp ?h338 ?h339 ?h340 ?h341)
      case' h338 => refine' ha_cons ?h342 ?h343
      case' h342 => refine' he_cp ?h344 ?h345 ?h346 ?h347
      case' h344 => refine' ha_cons ?h348 ?h349
      case' h348 => exact he_var 6
      case' h349 => refine' ha_cons ?h350 ?h351
      case' h350 => exact he_var 7
      case' h351 => exact ha_nil
      case' h346 => refine' ok_times T ?z352 ?z353 ?z354
      case' h345 => walk_at "sub"
      case' h347 => exact hr.mono (by decide)
      case' h343 => refine' ha_cons ?h355 ?h356
      case' h355 => refine' he_mul ?h357 ?h358 ?z359
      case' h357 => refine' he_ix ?h360 ?h361 ?h362
      case' h360 => exact he_var 3
      case' h361 => exact he_int
      case' h362 => walk_at "ix"
      case' h358 => refine' he_ix ?h363 ?h364 ?h365
      case' h363 => exact he_var 4
      case' h364 => exact he_int
      case' h365 => walk_at "ix"
      case' h356 => refine' ha_cons ?h366 ?h367
      case' h366 => exact he_var 10
      case' h367 => exact ha_nil
      case' h340 => refine' ok_is (m:=200) (n:=400) T ?z368 ?z369 ?z370 ?z371 ?z372
      case' h339 => walk_at "sub"
      case' h341 => exact hr.mono (by decide)
      case' z372 => try walk_at "side"
      case' z371 => try walk_at "side"
      case' z370 => try walk_at "side"
      case' z369 => try walk_at "side"
      case' z368 => try walk_at "side"
      case' z359 => try walk_at "side"
      case' z354 => try walk_at "side"
      case' z353 => try walk_at "side"
      case' z352 => try walk_at "side"
      try (first | (case' z372 => walk_at "side"))
      try (first | (case' z371 => walk_at "side"))
      try (first | (case' z370 => walk_at "side"))
      try (first | (case' z369 => walk_at "side"))
      try (first | (case' z368 => walk_at "side"))
      try (first | (case' z359 => walk_at "side"))
      try (first | (case' z354 => walk_at "side"))
      try (first | (case' z353 => walk_at "side"))
      try (first | (case' z352 => walk_at "side"))
      · rfl
      have zz : Sz 99 (((0 : Int) : Rat)) := Sz.int (by decide) (by decide)
      refine hb_ifF (O1 := [(a, LsO (plO p7))]) (b := false) ?t6 rfl ?k6
      case t6 =>
        by_cases h2 : q2 = 0
        · have hz : q2.num = 0 := by rw [h2]; rfl
          refine ht_w (ht_andF (ht_ne (he_ix (he_var 4) he_int (IxOk.lst rfl)) he_int) (by rw [hz]; rfl))
        · have hz : q2.num ≠ 0 := fun z => h2 (Rat.num_eq_zero.mp z)
          have y4 : Sz 198 (q1 / q2) := z1.div z2
          refine' ht_is ?h375 ?q374
          case' h375 => refine' ht_w ?h376
          first | (case' h376 => refine' ht_and ?h377 (fun hb379 => ?h378) (fun _ => rfl)) | (case' h375 => refine' ht_and ?h377 (fun hb379 => ?h378) (fun _ => rfl))
          case' h377 => refine' ht_ne ?h380 ?h381
          case' h380 => refine' he_ix ?h382 ?h383 ?h384
          case' h382 => exact he_var 4
          case' h383 => exact he_int
          case' h384 => walk_at "ix"
          case' h381 => exact he_int
          case' h378 => refine' hw_and1 ?h385
          first | (case' h385 => refine' ht_neD hr.units ?h386 ?h387 ?z388 ?z389) | (case' h378 => refine' ht_neD hr.units ?h386 ?h387 ?z388 ?z389)
          case' h386 => refine' he_cp ?h390 ?h391 ?h392 ?h393
          case' h390 => refine' ha_cons ?h394 ?h395
          case' h394 => refine' he_cp ?h396 ?h397 ?h398 ?h399
          case' h396 => refine' ha_cons ?h400 ?h401
          case' h400 => exact he_var 6
          case' h401 => refine' ha_cons ?h402 ?h403
          case' h402 => exact he_var 7
          case' h403 => exact ha_nil
          case' h398 => refine' ok_divided T ?z404 ?z405 ?z406 ?z407
          case' h397 => walk_at "sub"
          case' h399 => exact hr.mono (by decide)
          case' h395 => refine' ha_cons ?h408 ?h409
          case' h408 => exact he_var 7
          case' h409 => exact ha_nil
          case' h392 => refine' ok_times T ?z410 ?z411 ?z412
          case' h391 => walk_at "sub"
          case' h393 => exact hr.mono (by decide)
          case' h387 => refine' he_cp ?h413 ?h414 ?h415 ?h416
          case' h413 => refine' ha_cons ?h417 ?h418
          case' h417 => exact he_var 6
          case' h418 => refine' ha_cons ?h419 ?h420
          case' h419 => exact he_int
          case' h420 => exact ha_nil
          case' h415 => refine' ok_plus T ?z421 ?z422 ?z423
          case' h414 => walk_at "sub"
          case' h416 => exact hr.mono (by decide)
          case' z423 => try walk_at "side"
          case' z422 => try walk_at "side"
          case' z421 => try walk_at "side"
          case' z412 => try walk_at "side"
          case' z411 => try walk_at "side"
          case' z410 => try walk_at "side"
          case' z407 => try walk_at "side"
          case' z406 => try walk_at "side"
          case' z405 => try walk_at "side"
          case' z404 => try walk_at "side"
          case' z389 => try walk_at "side"
          case' z388 => try walk_at "side"
          try (first | (case' z423 => walk_at "side"))
          try (first | (case' z422 => walk_at "side"))
          try (first | (case' z421 => walk_at "side"))
          try (first | (case' z412 => walk_at "side"))
          try (first | (case' z411 => walk_at "side"))
          try (first | (case' z410 => walk_at "side"))
          try (first | (case' z407 => walk_at "side"))
          try (first | (case' z406 => walk_at "side"))
          try (first | (case' z405 => walk_at "side"))
          try (first | (case' z404 => walk_at "side"))
          try (first | (case' z389 => walk_at "side"))
          try (first | (case' z388 => walk_at "side"))
          rw [div_mul q1 h2, show q1 + (((0 : Int) : Rat)) = q1 from by rw [Rat.intCast_zero, Rat.add_zero], eqv_rat, decide_eq_false hz]; rfl
      refine' hb_cons (hs_set 11 sc_law.nd ?h426) ?k424
      case' h426 => refine' he_sub ?h427 ?h428
      case' h427 => refine' he_mul ?h429 ?h430 ?z431
      case' h429 => refine' he_ix ?h432 ?h433 ?h434
      case' h432 => exact he_var 3
      case' h433 => exact he_int
      case' h434 => walk_at "ix"
      case' h430 => refine' he_ix ?h435 ?h436 ?h437
      case' h435 => exact he_var 4
      case' h436 => exact he_int
      case' h437 => walk_at "ix"
      case' h428 => refine' he_mul ?h438 ?h439 ?z440
      case' h438 => refine' he_ix ?h441 ?h442 ?h443
      case' h441 => exact he_var 4
      case' h442 => exact he_int
      case' h443 => walk_at "ix"
      case' h439 => refine' he_ix ?h444 ?h445 ?h446
      case' h444 => exact he_var 3
      case' h445 => exact he_int
      case' h446 => walk_at "ix"
      case' z440 => try walk_at "side"
      case' z431 => try walk_at "side"
      try (first | (case' z440 => walk_at "side"))
      try (first | (case' z431 => walk_at "side"))
      refine' hb_ifF ?h449 ?q448 ?k447
      case' h449 => refine' ht_ne ?h450 ?h451
      case' h450 => refine' he_cp ?h452 ?h453 ?h454 ?h455
      case' h452 => refine' ha_cons ?h456 ?h457
      case' h456 => exact he_var 6
      case' h457 => refine' ha_cons ?h458 ?h459
      case' h458 => exact he_var 7
      case' h459 => exact ha_nil
      case' h454 => refine' ok_compare T ?z460 ?z461 ?z462
      case' h453 => walk_at "sub"
      case' h455 => exact hr.mono (by decide)
      case' h451 => refine' he_sub ?h463 ?h464
      case' h463 => refine' he_intB (b_int T) ?h465
      first | (case' h465 => refine' ha_cons ?h466 ?h467) | (case' h463 => refine' ha_cons ?h466 ?h467)
      case' h466 => refine' he_gt ?h468 ?h469
      case' h468 => exact he_var 11
      case' h469 => exact he_int
      case' h467 => exact ha_nil
      case' h464 => refine' he_intB (b_int T) ?h470
      first | (case' h470 => refine' ha_cons ?h471 ?h472) | (case' h464 => refine' ha_cons ?h471 ?h472)
      case' h471 => refine' he_lt ?h473 ?h474
      case' h473 => exact he_var 11
      case' h474 => exact he_int
      case' h472 => exact ha_nil
      case' z462 => try walk_at "side"
      case' z461 => try walk_at "side"
      case' z460 => try walk_at "side"
      try (first | (case' z462 => walk_at "side"))
      try (first | (case' z461 => walk_at "side"))
      try (first | (case' z460 => walk_at "side"))
      · rw [cmp_apart, decide_eq_true rfl]; rfl
      refine' hb_cons (hs_set 12 sc_law.nd ?h477) ?k475
      case' h477 => refine' he_cp ?h478 ?h479 ?h480 ?h481
      case' h478 => refine' ha_cons ?h482 ?h483
      case' h482 => exact he_var 6
      case' h483 => exact ha_nil
      case' h480 => refine' ok_floor_of T ?z484 ?z485
      case' h479 => walk_at "sub"
      case' h481 => exact hr.mono (by decide)
      case' z485 => try walk_at "side"
      case' z484 => try walk_at "side"
      try (first | (case' z485 => walk_at "side"))
      try (first | (case' z484 => walk_at "side"))
      have fl := floor_lt z1
      have fp := floor_parts q1
      have fl2 : (q1.floor + 1).natAbs < 2 ^ 100 := by omega
      have w4 : CMulW q1.floor q1.den := cmulW fl (Szd z1) (by decide)
      have w5 : CMulW (q1.floor + 1) q1.den := cmulW fl2 (Szd z1) (by decide)
      refine' hb_ifF ?h488 ?q487 ?k486
      case' h488 => refine' ht_not ?h489
      first | (case' h489 => refine' ht_leLt ?h490 ?h491 ?h492) | (case' h488 => refine' ht_leLt ?h490 ?h491 ?h492)
      case' h490 => refine' he_mul ?h493 ?h494 ?z495
      case' h493 => exact he_var 12
      case' h494 => refine' he_ix ?h496 ?h497 ?h498
      case' h496 => exact he_var 3
      case' h497 => exact he_int
      case' h498 => walk_at "ix"
      case' h491 => refine' he_ix ?h499 ?h500 ?h501
      case' h499 => exact he_var 3
      case' h500 => exact he_int
      case' h501 => walk_at "ix"
      case' h492 => refine' he_mul ?h502 ?h503 ?z504
      case' h502 => refine' he_add ?h505 ?h506
      case' h505 => exact he_var 12
      case' h506 => exact he_int
      case' h503 => refine' he_ix ?h507 ?h508 ?h509
      case' h507 => exact he_var 3
      case' h508 => exact he_int
      case' h509 => walk_at "ix"
      case' z504 => try walk_at "side"
      case' z495 => try walk_at "side"
      try (first | (case' z504 => walk_at "side"))
      try (first | (case' z495 => walk_at "side"))
      · rw [decide_eq_true fp.1, decide_eq_true fp.2]; rfl
      refine' hb_ifF ?h512 ?q511 ?k510
      case' h512 => refine' ht_val ?h513
      first | (case' h513 => refine' he_isT (b_isinstance T) (b_tuple T) PyProof.Rows.boot_tuple ?h514 (kit_tuple _)) | (case' h512 => refine' he_isT (b_isinstance T) (b_tuple T) PyProof.Rows.boot_tuple ?h514 (kit_tuple _))
      first | (case' h514 => exact he_var 12) | (case' h513 => exact he_var 12) | (case' h512 => exact he_var 12)
      · rfl
      refine' hb_cons (hs_if (O1 := [(a, LsO (plO p7))]) (o := .nx ([some (Scr K ns), some (In (k : Int)), some (Sv (.ref a)), some (Ls [.int q1.num, .int q1.den]), some (Ls [.int q2.num, .int q2.den]), some (Ls [.int q3.num, .int q3.den]), some (Dv d1), some (Dv d2), some (Dv d3), some (In sg0), some (In (q1.den * q2.den)), some (In (q1.num * q2.den - q2.num * q1.den)), some (In q1.floor), none, none]) ([(a, LsO (plO p7))])) ?h517 (fun hb => ?b518) (fun hb => ?b519)) ?k515
      case' h517 => refine' ht_gt ?h520 ?h521
      case' h520 => refine' he_ix ?h522 ?h523 ?h524
      case' h522 => exact he_var 4
      case' h523 => exact he_int
      case' h524 => walk_at "ix"
      case' h521 => exact he_int
      · have hb := of_decide_eq_true hb
        have h0 : 0 < q2 := by
          rw [← Rat.not_le]
          intro z
          rw [Rat.le_iff_sub_nonneg, Rat.sub_eq_add_neg, Rat.zero_add] at z
          have := Rat.num_nonneg.mpr z
          rw [Rat.neg_num] at this
          omega
        have hq0 : q2 ≠ 0 := fun z => by rw [z] at h0; exact absurd h0 (by decide)
        have r1 := rem_nonneg q1 h0
        have r2 := rem_lt q1 h0
        have zr : Sz 397 (rem q1 q2) := (z1.sub (z2.mul (z1.div z2).floor)).up (by decide)
        have zm : Sz 497 (q1 - rem q1 q2) := z1.sub zr
        refine' hb_cons (hs_set 13 sc_law.nd ?h530) ?k528
        case' h530 => refine' he_cp ?h531 ?h532 ?h533 ?h534
        case' h531 => refine' ha_cons ?h535 ?h536
        case' h535 => exact he_var 6
        case' h536 => refine' ha_cons ?h537 ?h538
        case' h537 => exact he_var 7
        case' h538 => exact ha_nil
        case' h533 => refine' ok_remainder T ?z539 ?z540 ?z541 ?z542
        case' h532 => walk_at "sub"
        case' h534 => exact hr.mono (by decide)
        case' z542 => try walk_at "side"
        case' z541 => try walk_at "side"
        case' z540 => try walk_at "side"
        case' z539 => try walk_at "side"
        try (first | (case' z542 => walk_at "side"))
        try (first | (case' z541 => walk_at "side"))
        try (first | (case' z540 => walk_at "side"))
        try (first | (case' z539 => walk_at "side"))
        refine' hb_cons (hs_set 14 sc_law.nd ?h545) ?k543
        case' h545 => refine' he_cp ?h546 ?h547 ?h548 ?h549
        case' h546 => refine' ha_cons ?h550 ?h551
        case' h550 => refine' he_cp ?h552 ?h553 ?h554 ?h555
        case' h552 => refine' ha_cons ?h556 ?h557
        case' h556 => exact he_var 6
        case' h557 => refine' ha_cons ?h558 ?h559
        case' h558 => exact he_var 13
        case' h559 => exact ha_nil
        case' h554 => refine' ok_minus T ?z560 ?z561 ?z562
        case' h553 => walk_at "sub"
        case' h555 => exact hr.mono (by decide)
        case' h551 => refine' ha_cons ?h563 ?h564
        case' h563 => exact he_var 7
        case' h564 => exact ha_nil
        case' h548 => refine' ok_divided T ?z565 ?z566 ?z567 ?z568
        case' h547 => walk_at "sub"
        case' h549 => exact hr.mono (by decide)
        case' z568 => try walk_at "side"
        case' z567 => try walk_at "side"
        case' z566 => try walk_at "side"
        case' z565 => try walk_at "side"
        case' z562 => try walk_at "side"
        case' z561 => try walk_at "side"
        case' z560 => try walk_at "side"
        try (first | (case' z568 => walk_at "side"))
        try (first | (case' z567 => walk_at "side"))
        try (first | (case' z566 => walk_at "side"))
        try (first | (case' z565 => walk_at "side"))
        try (first | (case' z562 => walk_at "side"))
        try (first | (case' z561 => walk_at "side"))
        try (first | (case' z560 => walk_at "side"))
        refine' hb_ifF ?h571 ?q570 ?k569
        case' h571 => refine' ht_w ?h572
        first | (case' h572 => refine' ht_or ?h573 (fun hb575 => ?h574) (fun _ => rfl)) | (case' h571 => refine' ht_or ?h573 (fun hb575 => ?h574) (fun _ => rfl))
        case' h573 => refine' ht_lt ?h576 ?h577
        case' h576 => refine' he_ix ?h578 ?h579 ?h580
        case' h578 => exact he_var 13
        case' h579 => exact he_int
        case' h580 => walk_at "ix"
        case' h577 => exact he_int
        case' h574 => refine' ht_or ?h581 (fun hb583 => ?h582) (fun _ => rfl)
        case' h581 => refine' ht_ge ?h584 ?h585
        case' h584 => refine' he_cp ?h586 ?h587 ?h588 ?h589
        case' h586 => refine' ha_cons ?h590 ?h591
        case' h590 => exact he_var 13
        case' h591 => refine' ha_cons ?h592 ?h593
        case' h592 => exact he_var 7
        case' h593 => exact ha_nil
        case' h588 => refine' ok_compare T ?z594 ?z595 ?z596
        case' h587 => walk_at "sub"
        case' h589 => exact hr.mono (by decide)
        case' h585 => exact he_int
        case' h582 => refine' hw_or1 ?h597
        first | (case' h597 => refine' ht_ne ?h598 ?h599) | (case' h582 => refine' ht_ne ?h598 ?h599)
        case' h598 => refine' he_ix ?h600 ?h601 ?h602
        case' h600 => exact he_var 14
        case' h601 => exact he_int
        case' h602 => walk_at "ix"
        case' h599 => exact he_int
        case' z596 => try walk_at "side"
        case' z595 => try walk_at "side"
        case' z594 => try walk_at "side"
        try (first | (case' z596 => walk_at "side"))
        try (first | (case' z595 => walk_at "side"))
        try (first | (case' z594 => walk_at "side"))
        · have e1 : decide ((rem q1 q2).num < 0) = false := decide_eq_false (by have := Rat.num_nonneg.mpr r1; omega)
          have e2 : decide (0 ≤ cmpQ (rem q1 q2) q2) = false := by rw [cmpQ, if_pos r2]; rfl
          have e3 : (((q1 - rem q1 q2) / q2).den : Int) = 1 := by rw [many_eq q1 hq0]; rfl
          rw [e1, e2, e3]; rfl
        exact hb_nilS (by walk_at "subc")
      · exact hb_nilS (by walk_at "subc")
      refine hb_ifF (O1 := [(a, LsO (plO p7))]) (ht_not (ht_val (he_cg (ha_cons (he_var 6) (ha_cons (he_var 7) (ha_cons (he_var 8) ha_nil))) (SubL.same (SubL.same (SubL.same SubL.nil))) (ok_sorted_right T n1 n2 n3 z1 z2 z3) (hr.mono (by decide)) hgd))) rfl ?_
      exact hb_drop (hb_nilS (by walk_at "subc"))
end
end Hd

namespace Hd
open PySem PySem.Spec PyProof.Rows L2 Tp
def loose : List Str := (["InvalidNumber", "DivisionByZero", "is_integer", "common_divisor", "is_ratio", "is_number", "ratio", "as_ratio", "plus", "minus", "times", "divided", "compare", "floor_of", "remainder", "in_order", "_law_pool", "_law_draw", "_law_choose", "_law_divisor", "_law_integer", "_law_pair", "_law_value", "_law_is", "_law_sorted_right"] : List Str)
abbrev R : PySem.W.OpenRow := PySem.W.OpenLaw.row PySem.Challenge.rw_laprunners_k01_arithmetic
abbrev hk : PySem.W.Hook := He.hookD 5 fa fn
def ob (s : PySem.W.SharedT) : He.AlD := He.obsDG 5 fa fn (HandSHeadRun.getT s)
theorem ob_eq (s : PySem.W.SharedT) : ob s = hk.obs s.abs := He.obsDG_eq (HandSHeadRun.getT_eq s)
theorem run (w : World) : HandSHeadRun.RunEq R (PySem.W.view R.prog [28]) hk ob 2000 loose w := by
  intro os
  kernel_rfl
end Hd
open PySem PySem.W PySem.Calls PyProof.Rows
theorem PySem.Challenge.cw_laprunners_k01_arithmetic_holds : PySem.Challenge.rw_laprunners_k01_arithmetic.Holds := by
  w_on; o_law
  refine HandSHeadRun.head_any (r := OpenLaw.row PySem.Challenge.rw_laprunners_k01_arithmetic) (q := view (OpenLaw.row PySem.Challenge.rw_laprunners_k01_arithmetic).prog [28]) (H := Hd.hk) (ob := Hd.ob) (M := 2000) (loose := Hd.loose) (d := HandSHeadRun.topDef (OpenLaw.row PySem.Challenge.rw_laprunners_k01_arithmetic).prog 28) (kwd := []) Hd.ob_eq
    (by kernel_rfl) (fun s => by kernel_rfl) Hd.run (by kernel_rfl) (by kernel_rfl) (by kernel_rfl) (by rfl) (by first | assumption | decide +kernel) (by decide +kernel) ⟨rfl, rfl, rfl, rfl, rfl, by decide +kernel⟩ ?hw ?hc
  case hw => w_witness2
  case hc =>
    refine Tp.walk_g (l := PySem.Challenge.rw_laprunners_k01_arithmetic) (n := 63) (k := 30) (x := "script") (CX := fun w => L2.CX (PySem.Challenge.rw_laprunners_k01_arithmetic).prog w) rfl (by decide) (by kernel_rfl) ⟨rfl, by decide, by decide⟩ ?F (fun w H s e s2 z => Tp.cx_false H s e s2 z)
    intro w mg fa h Y G hmg0
    obtain ⟨K, KX, c⟩ := Y
    have hmg : mg ("law" : PySem.Str) = some (.ref fa) := by
      have e : (HandSHeadRun.topDef (OpenLaw.row PySem.Challenge.rw_laprunners_k01_arithmetic).prog 28).name = ("law" : PySem.Str) := by kernel_rfl
      rw [← e]
      exact hmg0
    have T : Tp.Tb Hd.fa Hd.fn K mg h := ⟨c, KX, G⟩
    obtain ⟨fd, F⟩ := c.def_ 23 (d := Hd.d_law) rfl
    have e := hmg.symm.trans (Hd.g_law T)
    cases e
    have b := L2.FunD.bindsA (ps := ["script"]) F fun _ _ _ _ _ _ us hl => match us, hl with | [_], _ => rfl
    exact ⟨K, fd, Tp.spLaw K, KX, fun s v => b s [v] rfl, fun H a ns _ _ hS => Tp.spLaw_of hS, fun base _ _ => Tp.FnG.ex fun ns => Hd.ok_law T fd F⟩
