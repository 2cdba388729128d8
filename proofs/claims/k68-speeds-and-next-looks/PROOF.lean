import PyProof.Rows.All
import Wide.All
import OpenK.AllK
import Wide.FinOn
import HandS.ForMost
import HandS.IsInst
import HandS.Wide
import HandS.WordsExc
import HandS.Defaults
import HandS.HeadHook1
import HandS.Iter
import HandS.Flow
import HandS.Dict
import HandS.WordsDict
import HandS.TupMul
import HandS.Text
import HandS.Property
import HandS.ExcOwn
import HandS.Zip
import HandS.Style
import HandS.SortInts
import HandS.More
import HandS.Comp
import HandS.DictComp
import HandS.Star
import HandS.SetBool
import HandS.TupSets
import HandS.Strs
import HandS.SortRule
import HandS.HeadHook2
import HandS.HeadEnd
import HandS.Ends
import HandS.Head0
import HandS.Head1
import HandS.Head2
import KE.KStateDown
import HandS.Conv
import HandS.Sort
import HandS.OwnEq
import HandS.DictEq
import HandS.DeepEq
import PyProof.DictUpdate
import KE.GoesEnumKw
import HandS.SetFor
import PySem.Challenge.RW_laprunners_k68_speeds_and_next_looks
set_option Elab.async false
set_option linter.all false
set_option maxRecDepth 100000
set_option maxHeartbeats 0
namespace Dn
open PySem PySem.Spec PyProof.Rows L2

/-! ### data that is written no more; trees of our own -/
inductive D where
  | none | bool (b : Bool) | int (i : Int) | str (x : Str)
  | tup (ds : List D) | list (ds : List D)
  | dict (ks : List Key) (ds : List D)
  | dictT (ks : List (List Key)) (ds : List D)
  | inst (C : Str) (ns : List Str) (ds : List D)
  | scr (ns : List Int)
  | val (v : V)
inductive T where
  | d (x : D)
  | lst (ds : List D)
  | dict (ks : List Key) (ds : List D)
  | dictT (ks : List (List Key)) (ds : List D)
  | inst (C : Str) (ns : List Str) (ts : List T)
mutual
def T.frz : T → D
  | .d x => x
  | .lst ds => .list ds
  | .dict ks ds => .dict ks ds
  | .dictT ks ds => .dictT ks ds
  | .inst C ns ts => .inst C ns (frzL ts)
def frzL : List T → List D
  | [] => []
  | t :: ts => t.frz :: frzL ts
end
inductive Slot where
  | none | loc (t : T) | par (t : T)
abbrev Ev := List Slot
/-- an exception's class: own, built-in -/
inductive XC where
  | own (c : Str) | blt (n : String)
abbrev Fds := List (Str × D)
inductive Rs (α : Type) where
  | ok (a : α) (e : Ev)
  | exc (c : XC) (fs : Fds) (e : Ev)
  | stuck
def Rs.bind {α β : Type} (r : Rs α) (f : α → Ev → Rs β) : Rs β := match r with
  | .ok a e => f a e
  | .exc c fs e => .exc c fs e
  | .stuck => .stuck
def Rs.bindD {β : Type} (r : Rs T) (f : D → Ev → Rs β) : Rs β := match r with
  | .ok a e => f a.frz e
  | .exc c fs e => .exc c fs e
  | .stuck => .stuck
abbrev DE := Ev → Rs T
inductive Fw where
  | nx | rt (t : T) | bk | ct
abbrev DS := Ev → Rs Fw
inductive FR where
  | ok (t : T) (back : List T)
  | exc (c : XC) (fs : Fds) (back : List T)
  | stuck
abbrev Fn := List T → FR

/-! ### data in the heap -/
mutual
inductive Is (K : PySem.W.Frag) (H : Hp) : V → D → Prop
  | non : Is K H .non .none
  | bl (b : Bool) : Is K H (.bl b) (.bool b)
  | int (i : Int) : Is K H (.int i) (.int i)
  | str (x : Str) : Is K H (.str x) (.str x)
  | lst {a : Addr} {xs : List V} {ds : List D} (h : H a = some (.lst xs)) (r : IsL K H xs ds) : Is K H (.ref a) (.list ds)
  | tup {a : Addr} {xs : List V} {ds : List D} (h : H a = some (.tup xs)) (r : IsL K H xs ds) : Is K H (.ref a) (.tup ds)
  | dict {a : Addr} {od : Obj} {kv : List (Key × V)} {ks : List Key} {ds : List D} (h : H a = some (.frz od (.dK kv))) (hk : kv.map (·.1) = ks) (r : IsL K H (kv.map (·.2)) ds) : Is K H (.ref a) (.dict ks ds)
  | dictT {a : Addr} {od : Obj} {kv : List (List Key × V)} {ks : List (List Key)} {ds : List D} (h : H a = some (.frz od (.dT kv))) (hk : kv.map (·.1) = ks) (r : IsL K H (kv.map (·.2)) ds) : Is K H (.ref a) (.dictT ks ds)
  | inst {a dx : Addr} {C : Str} {fs : List (Str × V)} {ns : List Str} {ds : List D} (h : H a = some (.ins (He.ga K C) dx fs)) (hn : fs.map (·.1) = ns) (r : IsL K H (fs.map (·.2)) ds) : Is K H (.ref a) (.inst C ns ds)
  | scr {a : Addr} (ns : List Int) (h : SqL K H a (ns.map V.int)) : Is K H (.ref a) (.scr ns)
  | val (v : V) : Is K H v (.val v)
inductive IsL (K : PySem.W.Frag) (H : Hp) : List V → List D → Prop
  | nil : IsL K H [] []
  | cons {v : V} {vs : List V} {d : D} {ds : List D} (h : Is K H v d) (t : IsL K H vs ds) : IsL K H (v :: vs) (d :: ds)
end
mutual
theorem Is.up {K : PySem.W.Frag} {H H' : Hp} (e : Same H H') {v : V} {d : D} (h : Is K H v d) : Is K H' v d := by
  cases h with
  | non => exact .non
  | bl => exact .bl _
  | int => exact .int _
  | str => exact .str _
  | lst h r => exact .lst (e _ _ h) (IsL.up e r)
  | tup h r => exact .tup (e _ _ h) (IsL.up e r)
  | dict h hk r => exact .dict (e _ _ h) hk (IsL.up e r)
  | dictT h hk r => exact .dictT (e _ _ h) hk (IsL.up e r)
  | inst h hn r => exact .inst (e _ _ h) hn (IsL.up e r)
  | scr ns h => exact .scr ns (e.seq h)
  | val => exact .val _
theorem IsL.up {K : PySem.W.Frag} {H H' : Hp} (e : Same H H') {vs : List V} {ds : List D} (h : IsL K H vs ds) : IsL K H' vs ds := by
  cases h with
  | nil => exact .nil
  | cons h t => exact .cons (Is.up e h) (IsL.up e t)
end
section
variable {K : PySem.W.Frag} {H : Hp}
theorem IsL.length : ∀ {ds : List D} {vs : List V}, IsL K H vs ds → vs.length = ds.length
  | [], _, h => by cases h; rfl
  | d :: ds, _, h => by
    cases h with
    | cons h t => rw [List.length_cons, List.length_cons, t.length]
theorem IsL.get : ∀ {ds : List D} {vs : List V} {i : Nat} {v : V}, IsL K H vs ds → vs[i]? = some v → ∃ d, ds[i]? = some d ∧ Is K H v d
  | [], _, i, v, h, e => by cases h; simp at e
  | d :: ds, _, 0, v, h, e => by
    cases h with
    | cons h t => simp at e; subst e; exact ⟨d, rfl, h⟩
  | d :: ds, _, i + 1, v, h, e => by
    cases h with
    | cons h t =>
      obtain ⟨d', e', r⟩ := IsL.get (i := i) t (by simpa using e)
      exact ⟨d', by simpa using e', r⟩
theorem IsL.at {ds : List D} {vs : List V} {i : Nat} {d : D} (h : IsL K H vs ds) (e : ds[i]? = some d) : ∃ v, vs[i]? = some v ∧ Is K H v d := by
  have hi : i < ds.length := (List.getElem?_eq_some_iff.mp e).1
  have hv : i < vs.length := by rw [h.length]; exact hi
  obtain ⟨d', e', r⟩ := h.get (List.getElem?_eq_getElem hv)
  rw [e] at e'
  cases e'
  exact ⟨_, List.getElem?_eq_getElem hv, r⟩
theorem IsL.app : ∀ {ds es : List D} {vs us : List V}, IsL K H vs ds → IsL K H us es → IsL K H (vs ++ us) (ds ++ es)
  | [], _, _, _, h, r => by cases h; exact r
  | _ :: ds, _, _, _, h, r => by
    cases h with
    | cons h t => exact .cons h (t.app r)
theorem IsL.snoc {ds : List D} {vs : List V} {d : D} {v : V} (h : IsL K H vs ds) (r : Is K H v d) : IsL K H (vs ++ [v]) (ds ++ [d]) := h.app (.cons r .nil)
theorem IsL.set : ∀ {ds : List D} {vs : List V} {j : Nat} {d : D} {v : V}, IsL K H vs ds → Is K H v d → IsL K H (vs.set j v) (ds.set j d)
  | [], _, j, d, v, h, r => by cases h; exact .nil
  | _ :: ds, _, 0, d, v, h, r => by
    cases h with
    | cons h t => exact .cons r t
  | _ :: ds, _, j + 1, d, v, h, r => by
    cases h with
    | cons h t => exact .cons h (t.set r)
theorem IsL.take : ∀ {ds : List D} {vs : List V} (n : Nat), IsL K H vs ds → IsL K H (vs.take n) (ds.take n)
  | _, _, 0, _ => by simp; exact .nil
  | [], _, n + 1, h => by cases h; exact .nil
  | _ :: _, _, n + 1, h => by
    cases h with
    | cons h t => exact .cons h (t.take n)
theorem IsL.drop : ∀ {ds : List D} {vs : List V} (n : Nat), IsL K H vs ds → IsL K H (vs.drop n) (ds.drop n)
  | _, _, 0, h => by simpa using h
  | [], _, n + 1, h => by cases h; exact .nil
  | _ :: _, _, n + 1, h => by
    cases h with
    | cons h t => exact t.drop n
theorem IsL.of_ints : ∀ ns : List Int, IsL K H (ns.map V.int) (ns.map D.int)
  | [] => .nil
  | n :: ns => .cons (.int n) (IsL.of_ints ns)
theorem IsL.ints : ∀ {ns : List Int} {vs : List V}, IsL K H vs (ns.map D.int) → vs = ns.map V.int
  | [], _, h => by cases h; rfl
  | n :: ns, _, h => by
    cases h with
    | cons h t => cases h; rw [IsL.ints t]; rfl
theorem IsL.of_strs : ∀ ns : List Str, IsL K H (ns.map V.str) (ns.map D.str)
  | [] => .nil
  | n :: ns => .cons (.str n) (IsL.of_strs ns)
theorem IsL.strs : ∀ {ns : List Str} {vs : List V}, IsL K H vs (ns.map D.str) → vs = ns.map V.str
  | [], _, h => by cases h; rfl
  | n :: ns, _, h => by
    cases h with
    | cons h t => cases h; rw [IsL.strs t]; rfl
theorem Is.intE {v : V} {n : Int} (h : Is K H v (.int n)) : v = .int n := by cases h; rfl
theorem Is.boolE {v : V} {n : Bool} (h : Is K H v (.bool n)) : v = .bl n := by cases h; rfl
theorem Is.strE {v : V} {n : Str} (h : Is K H v (.str n)) : v = .str n := by cases h; rfl
theorem Is.noneE {v : V} (h : Is K H v .none) : v = .non := by cases h; rfl
theorem Is.valE {v u : V} (h : Is K H v (.val u)) : v = u := by cases h; rfl
theorem Is.tupE {v : V} {ds : List D} (h : Is K H v (.tup ds)) : ∃ a xs, v = .ref a ∧ H a = some (.tup xs) ∧ IsL K H xs ds := by
  cases h with
  | tup h r => exact ⟨_, _, rfl, h, r⟩
theorem Is.listE {v : V} {ds : List D} (h : Is K H v (.list ds)) : ∃ a xs, v = .ref a ∧ H a = some (.lst xs) ∧ IsL K H xs ds := by
  cases h with
  | lst h r => exact ⟨_, _, rfl, h, r⟩
theorem Is.dictE {v : V} {ks : List Key} {ds : List D} (h : Is K H v (.dict ks ds)) : ∃ a od kv, v = .ref a ∧ H a = some (.frz od (.dK kv)) ∧ kv.map (·.1) = ks ∧ IsL K H (kv.map (·.2)) ds := by
  cases h with
  | dict h hk r => exact ⟨_, _, _, rfl, h, hk, r⟩
theorem Is.dictTE {v : V} {ks : List (List Key)} {ds : List D} (h : Is K H v (.dictT ks ds)) : ∃ a od kv, v = .ref a ∧ H a = some (.frz od (.dT kv)) ∧ kv.map (·.1) = ks ∧ IsL K H (kv.map (·.2)) ds := by
  cases h with
  | dictT h hk r => exact ⟨_, _, _, rfl, h, hk, r⟩
theorem Is.instE {v : V} {C : Str} {ns : List Str} {ds : List D} (h : Is K H v (.inst C ns ds)) : ∃ a dx fs, v = .ref a ∧ H a = some (.ins (He.ga K C) dx fs) ∧ fs.map (·.1) = ns ∧ IsL K H (fs.map (·.2)) ds := by
  cases h with
  | inst h hn r => exact ⟨_, _, _, rfl, h, hn, r⟩
end

/-! ### trees of our own; A: the addresses that they own -/
mutual
inductive TIs (K : PySem.W.Frag) (G H : Hp) : V → T → List Addr → Prop
  | d {v : V} {x : D} (h : Is K G v x) : TIs K G H v (.d x) []
  | lst {a : Addr} {xs : List V} {ds : List D} (h : H a = some (.lst xs)) (r : IsL K G xs ds) : TIs K G H (.ref a) (.lst ds) [a]
  | dict {a : Addr} {kv : List (Key × V)} {ks : List Key} {ds : List D} (h : H a = some (.dK kv)) (hk : kv.map (·.1) = ks) (r : IsL K G (kv.map (·.2)) ds) : TIs K G H (.ref a) (.dict ks ds) [a]
  | dictT {a : Addr} {kv : List (List Key × V)} {ks : List (List Key)} {ds : List D} (h : H a = some (.dT kv)) (hk : kv.map (·.1) = ks) (r : IsL K G (kv.map (·.2)) ds) : TIs K G H (.ref a) (.dictT ks ds) [a]
  | inst {a dx : Addr} {C : Str} {fs : List (Str × V)} {ns : List Str} {ts : List T} {A : List Addr} (h : H a = some (.ins (He.ga K C) dx fs)) (hn : fs.map (·.1) = ns) (r : TIsL K G H (fs.map (·.2)) ts A) : TIs K G H (.ref a) (.inst C ns ts) (a :: A)
inductive TIsL (K : PySem.W.Frag) (G H : Hp) : List V → List T → List Addr → Prop
  | nil : TIsL K G H [] [] []
  | cons {v : V} {vs : List V} {t : T} {ts : List T} {A B : List Addr} (h : TIs K G H v t A) (r : TIsL K G H vs ts B) : TIsL K G H (v :: vs) (t :: ts) (A ++ B)
end
/-- the slots; ps: the values of the parameters that a caller keeps -/
inductive EvIs (K : PySem.W.Frag) (G H : Hp) : List V → L2.St → Ev → List Addr → Prop
  | nil : EvIs K G H [] [] [] []
  | none {ps : List V} {o : Option V} {σ : L2.St} {env : Ev} {A : List Addr} (r : EvIs K G H ps σ env A) : EvIs K G H ps (o :: σ) (.none :: env) A
  | loc {ps : List V} {v : V} {t : T} {σ : L2.St} {env : Ev} {A B : List Addr} (h : TIs K G H v t A) (r : EvIs K G H ps σ env B) : EvIs K G H ps (some v :: σ) (.loc t :: env) (A ++ B)
  | par {ps : List V} {v : V} {t : T} {σ : L2.St} {env : Ev} {A B : List Addr} (h : TIs K G H v t A) (r : EvIs K G H ps σ env B) : EvIs K G H (v :: ps) (some v :: σ) (.par t :: env) (A ++ B)
/-- the entry: what was known, the heap, what may be written -/
structure Fm where
  G0 : Hp
  H0 : Hp
  P : Addr → Prop
structure Rel (F : Fm) (G H : Hp) (A : List Addr) : Prop where
  g : Same F.G0 G
  gh : Same G H
  keep : ∀ a o, ¬ F.P a → F.H0 a = some o → H a = some o
  there : ∀ a, H a = none → F.H0 a = none
  sep : ∀ a o, G a = some o → F.G0 a = some o ∨ F.H0 a = none ∨ F.P a
  fp : ∀ a ∈ A, G a = none ∧ (∃ o, H a = some o) ∧ (F.P a ∨ F.H0 a = none)
  nd : A.Nodup

mutual
theorem TIs.up {K : PySem.W.Frag} {G H G' H' : Hp} (s : Same G G') {v : V} {t : T} {A : List Addr} (h : TIs K G H v t A) (k : ∀ a ∈ A, H' a = H a) : TIs K G' H' v t A := by
  cases h with
  | d h => exact .d (h.up s)
  | lst h r => exact .lst ((k _ List.mem_cons_self).trans h) (r.up s)
  | dict h hk r => exact .dict ((k _ List.mem_cons_self).trans h) hk (r.up s)
  | dictT h hk r => exact .dictT ((k _ List.mem_cons_self).trans h) hk (r.up s)
  | inst h hn r => exact .inst ((k _ List.mem_cons_self).trans h) hn (TIsL.up s r fun a ha => k a (List.mem_cons_of_mem _ ha))
theorem TIsL.up {K : PySem.W.Frag} {G H G' H' : Hp} (s : Same G G') {vs : List V} {ts : List T} {A : List Addr} (h : TIsL K G H vs ts A) (k : ∀ a ∈ A, H' a = H a) : TIsL K G' H' vs ts A := by
  cases h with
  | nil => exact .nil
  | cons h r => exact .cons (TIs.up s h fun a ha => k a (List.mem_append_left _ ha)) (TIsL.up s r fun a ha => k a (List.mem_append_right _ ha))
end
theorem EvIs.up {K : PySem.W.Frag} {G H G' H' : Hp} {ps : List V} {σ : L2.St} {env : Ev} {A : List Addr} (s : Same G G') (h : EvIs K G H ps σ env A) (k : ∀ a ∈ A, H' a = H a) : EvIs K G' H' ps σ env A := by
  induction h with
  | nil => exact .nil
  | none r ih => exact .none (ih k)
  | loc h r ih => exact .loc (h.up s fun a ha => k a (List.mem_append_left _ ha)) (ih fun a ha => k a (List.mem_append_right _ ha))
  | par h r ih => exact .par (h.up s fun a ha => k a (List.mem_append_left _ ha)) (ih fun a ha => k a (List.mem_append_right _ ha))
section
variable {F : Fm} {G H G' H' : Hp} {A B : List Addr} {p a : Addr} {o : HO} {K : PySem.W.Frag} {ps : List V} {σ : L2.St} {env : Ev}
theorem Same.gnone (f : Same G H) (hp : H p = none) : G p = none := by
  cases q : G p with
  | none => rfl
  | some u => rw [f p u q] at hp; cases hp
theorem Same.new (f : Same G H) (hp : H p = none) : Same G (upd G p o) := fun b u q => by rw [upd_ne (ne_of_none q (Same.gnone f hp))]; exact q
theorem Same.newG (hp : G p = none) : Same G (upd G p o) := fun b u q => by rw [upd_ne (ne_of_none q hp)]; exact q
theorem Rel.perm (f : Rel F G H A) (h : A.Perm B) : Rel F G H B := { f with fp := fun a ha => f.fp a (h.mem_iff.mpr ha), nd := h.nodup_iff.mp f.nd }
theorem Rel.ne (f : Rel F G H A) (hp : H p = none) : ∀ a ∈ A, a ≠ p := fun a ha e => by
  obtain ⟨_, ⟨o', h1⟩, _⟩ := f.fp a ha
  rw [e, hp] at h1; cases h1
/-- a new object goes to what is known -/
theorem Rel.new (f : Rel F G H A) (hp : H p = none) : Rel F (upd G p o) (upd H p o) A := by
  have s1 : Same G (upd G p o) := Same.new f.gh hp
  refine ⟨f.g.trans s1, fun b u q => ?_, fun a u h1 h2 => ?_, fun a h => ?_, fun a u h => ?_, fun a ha => ?_, f.nd⟩
  · by_cases e : b = p
    · subst e; rw [upd_same] at q ⊢; exact q
    · rw [upd_ne e] at q ⊢; exact f.gh b u q
  · have := f.keep a u h1 h2
    rw [upd_ne (ne_of_none this hp)]; exact this
  · by_cases e : a = p
    · subst e; rw [upd_same] at h; cases h
    · rw [upd_ne e] at h; exact f.there a h
  · by_cases e : a = p
    · subst e; exact .inr (.inl (f.there a hp))
    · rw [upd_ne e] at h; exact f.sep a u h
  · have e := f.ne hp a ha
    rw [upd_ne e, upd_ne e]; exact f.fp a ha
theorem upd_off (f : ∀ a ∈ A, a ≠ p) : ∀ a ∈ A, (upd H p o) a = H a := fun a ha => upd_ne (f a ha)
/-- a new object is our own -/
theorem Rel.mine (f : Rel F G H A) (hp : H p = none) : Rel F G (upd H p o) (p :: A) := by
  have hG := Same.gnone f.gh hp
  refine ⟨f.g, fun b u q => ?_, fun a u h1 h2 => ?_, fun a h => ?_, f.sep, fun a ha => ?_, List.nodup_cons.mpr ⟨fun h => f.ne hp p h rfl, f.nd⟩⟩
  · rw [upd_ne (ne_of_none q hG)]; exact f.gh b u q
  · have := f.keep a u h1 h2
    rw [upd_ne (ne_of_none this hp)]; exact this
  · by_cases e : a = p
    · subst e; rw [upd_same] at h; cases h
    · rw [upd_ne e] at h; exact f.there a h
  · rcases List.mem_cons.mp ha with e | ha
    · subst e; exact ⟨hG, ⟨o, upd_same⟩, .inr (f.there a hp)⟩
    · have e := f.ne hp a ha
      rw [upd_ne e]; exact f.fp a ha
/-- a new object that nobody will ask for -/
theorem Rel.junk (f : Rel F G H A) (hp : H p = none) : Rel F G (upd H p o) A := by
  have f2 := f.mine (o := o) hp
  exact { f2 with fp := fun a ha => f2.fp a (List.mem_cons_of_mem _ ha), nd := f.nd }
/-- our own is written -/
theorem Rel.put (f : Rel F G H A) (ha : a ∈ A) : Rel F G (upd H a o) A := by
  obtain ⟨hG, ⟨o1, h1⟩, hP⟩ := f.fp a ha
  refine ⟨f.g, fun b u q => ?_, fun b u h2 h3 => ?_, fun b h => ?_, f.sep, fun b hb => ?_, f.nd⟩
  · rw [upd_ne (ne_of_none q hG)]; exact f.gh b u q
  · have e : b ≠ a := fun e => by
      subst e
      rcases hP with z | z
      · exact h2 z
      · rw [z] at h3; cases h3
    rw [upd_ne e]; exact f.keep b u h2 h3
  · by_cases e : b = a
    · subst e; rw [upd_same] at h; cases h
    · rw [upd_ne e] at h; exact f.there b h
  · by_cases e : b = a
    · subst e; exact ⟨hG, ⟨o, upd_same⟩, hP⟩
    · rw [upd_ne e]; exact f.fp b hb
/-- our own becomes known -/
theorem Rel.freeze (f : Rel F G H (a :: A)) (h : H a = some o) : Rel F (upd G a o) H A ∧ Same G (upd G a o) := by
  obtain ⟨hG, _, hP⟩ := f.fp a List.mem_cons_self
  obtain ⟨hnd, nd'⟩ := List.nodup_cons.mp f.nd
  have s1 : Same G (upd G a o) := Same.newG hG
  refine ⟨⟨f.g.trans s1, fun b u q => ?_, f.keep, f.there, fun b u q => ?_, fun b hb => ?_, nd'⟩, s1⟩
  · by_cases e : b = a
    · subst e; rw [upd_same] at q; cases q; exact h
    · rw [upd_ne e] at q; exact f.gh b u q
  · by_cases e : b = a
    · subst e; exact .inr hP.symm
    · rw [upd_ne e] at q; exact f.sep b u q
  · have e : b ≠ a := fun e => hnd (e ▸ hb)
    rw [upd_ne e]; exact f.fp b (List.mem_cons_of_mem _ hb)
theorem Rel.sub (f : Rel F G H A) (h : ∀ b ∈ B, b ∈ A) (nd : B.Nodup) : Rel F G H B := { f with fp := fun a ha => f.fp a (h a ha), nd := nd }
theorem Rel.right (f : Rel F G H (B ++ A)) : Rel F G H A := f.sub (fun b hb => List.mem_append_right _ hb) (List.nodup_append.mp f.nd).2.1
theorem Rel.left (f : Rel F G H (B ++ A)) : Rel F G H B := f.sub (fun b hb => List.mem_append_left _ hb) (List.nodup_append.mp f.nd).1
theorem Rel.dj (f : Rel F G H (B ++ A)) : ∀ a ∈ A, a ∉ B := fun a ha hb => (List.nodup_append.mp f.nd).2.2 a hb a ha rfl
theorem Rel.gG (f : Rel F G H A) : Same G G := Same.refl G
/-- where a callee starts: B is handed over -/
theorem Rel.start (f : Rel F G H A) (h : ∀ b ∈ B, b ∈ A) (nd : B.Nodup) : Rel ⟨G, H, fun a => a ∈ B⟩ G H B :=
  ⟨Same.refl G, f.gh, fun _ _ _ h => h, fun _ h => h, fun _ _ h => .inl h, fun a ha => ⟨(f.fp a (h a ha)).1, (f.fp a (h a ha)).2.1, .inl ha⟩, nd⟩
/-- behind it -/
theorem Rel.back {B' : List Addr} (f : Rel F G H (B ++ A)) (g : Rel ⟨G, H, fun a => a ∈ B⟩ G' H' B') : Rel F G' H' (B' ++ A) ∧ Same G G' ∧ ∀ a ∈ A, H' a = H a := by
  have hA : ∀ a ∈ A, H' a = H a := fun a ha => by
    obtain ⟨_, ⟨o, e⟩, _⟩ := f.fp a (List.mem_append_right _ ha)
    rw [e, g.keep a o (f.dj a ha) e]
  have hB : ∀ a, a ∈ B → F.P a ∨ F.H0 a = none := fun a ha => (f.fp a (List.mem_append_left _ ha)).2.2
  refine ⟨⟨f.g.trans g.g, g.gh, fun a o h1 h2 => ?_, fun a h => f.there a (g.there a h), fun a o h => ?_, fun a ha => ?_, ?_⟩, g.g, hA⟩
  · have h3 := f.keep a o h1 h2
    refine g.keep a o (fun hm => ?_) h3
    rcases hB a hm with z | z
    · exact h1 z
    · rw [z] at h2; cases h2
  · rcases g.sep a o h with z | z | z
    · exact f.sep a o z
    · exact .inr (.inl (f.there a z))
    · exact .inr (hB a z).symm
  · rcases List.mem_append.mp ha with hb | ha
    · obtain ⟨h1, h2, h3⟩ := g.fp a hb
      refine ⟨h1, h2, ?_⟩
      rcases h3 with z | z
      · exact hB a z
      · exact .inr (f.there a z)
    · obtain ⟨h1, ⟨o, h2⟩, h3⟩ := f.fp a (List.mem_append_right _ ha)
      refine ⟨?_, ⟨o, (hA a ha).trans h2⟩, h3⟩
      cases q : G' a with
      | none => rfl
      | some u =>
        rcases g.sep a u q with z | z | z
        · have z : G a = some u := z
          rw [h1] at z; cases z
        · have z : H a = none := z
          rw [h2] at z; cases z
        · exact absurd z (f.dj a ha)
  · refine List.nodup_append.mpr ⟨g.nd, (List.nodup_append.mp f.nd).2.1, fun a ha b hb e => ?_⟩
    subst e
    obtain ⟨_, _, h3⟩ := g.fp a ha
    rcases h3 with z | z
    · exact f.dj a hb z
    · obtain ⟨_, ⟨o, h2⟩, _⟩ := f.fp a (List.mem_append_right _ hb)
      have z : H a = none := z
      rw [h2] at z; cases z
theorem EvIs.len (h : EvIs K G H ps σ env A) : σ.length = env.length := by
  induction h with
  | nil => rfl
  | none _ ih => rw [List.length_cons, List.length_cons, ih]
  | loc _ _ ih => rw [List.length_cons, List.length_cons, ih]
  | par _ _ ih => rw [List.length_cons, List.length_cons, ih]
end
end Dn

namespace Dn
open PySem PySem.Spec PyProof.Rows L2
/-! ### what a piece of text does, from a state on -/
structure RunE (X : Cx) (e : Expr) (σ : L2.St) (H : Hp) (Q : VK) : Prop where of ::
  r : ∀ (pins : List (Addr × Obj)) (s : Shared), Inv X pins σ H s → wpAny (model X.prog X.w) X.A (eval e X.env) (EP X pins σ Q) X.xe s
theorem pe_run {X : Cx} {e : Expr} : PE X e (RunE X e) := ⟨fun pins s _ _ _ I h => h.r pins s I⟩
structure RunT (X : Cx) (e : Expr) (σ : L2.St) (H : Hp) (Q : Bool → Hp → Prop) : Prop where of ::
  r : ∀ (pins : List (Addr × Obj)) (s : Shared), Inv X pins σ H s → wpAny (model X.prog X.w) X.A (isTrue e X.env (eval e X.env)) (TP X pins σ Q) X.xe s
theorem pt_run {X : Cx} {e : Expr} : PT X e (RunT X e) := ⟨fun pins s _ _ _ I h => h.r pins s I⟩
structure RunW (X : Cx) (e : Expr) (σ : L2.St) (H : Hp) (Q : Bool → Hp → Prop) : Prop where of ::
  r : ∀ (wh : Sem Value) (pins : List (Addr × Obj)) (s : Shared), Inv X pins σ H s → wpAny (model X.prog X.w) X.A (isTrue e X.env wh) (TP X pins σ Q) X.xe s
theorem pw_run {X : Cx} {e : Expr} : PW X e (RunW X e) := ⟨fun wh pins s _ _ _ I h => h.r wh pins s I⟩
structure RunA (X : Cx) (es : List Expr) (σ : L2.St) (H : Hp) (Q : List V → Hp → Prop) : Prop where of ::
  r : ∀ (pos : Pos) (pins : List (Addr × Obj)) (s : Shared), Inv X pins σ H s → wpAny (model X.prog X.w) X.A (spliced (backTo pos (starEach es X.env))) (AP X pins σ Q) X.xe s
theorem pa_run {X : Cx} {es : List Expr} : PA X es (RunA X es) := ⟨fun pos pins s _ _ _ I h => h.r pos pins s I⟩
structure RunS (X : Cx) (st : Stmt) (D : Ends) (σ : L2.St) (H : Hp) : Prop where of ::
  r : ∀ (pins : List (Addr × Obj)) (s : Shared), Inv X pins σ H s → wpAny (model X.prog X.w) X.A (exec st X.env) (SP X pins D) X.xe s
theorem ps_run {X : Cx} {st : Stmt} : PS X st (RunS X st) := ⟨fun pins s _ _ _ I h => h.r pins s I⟩
structure RunB (X : Cx) (st : List Stmt) (D : Ends) (σ : L2.St) (H : Hp) : Prop where of ::
  r : ∀ (pins : List (Addr × Obj)) (s : Shared), Inv X pins σ H s → wpAny (model X.prog X.w) X.A (execs st X.env) (SP X pins D) X.xe s
theorem pb_run {X : Cx} {st : List Stmt} : PSs X st (RunB X st) := ⟨fun pins s _ _ _ I h => h.r pins s I⟩
structure RunG (X : Cx) (tg : Expr) (v : V) (σ : L2.St) (H : Hp) (Q : L2.St → Hp → Prop) : Prop where of ::
  r : ∀ (pins : List (Addr × Obj)) (s : Shared) (u : Value), Inv X pins σ H s → RelV v u → wpAny (model X.prog X.w) X.A (assign tg X.env u) (fun _ s' => ∃ σ' H', Inv X pins σ' H' s' ∧ Q σ' H') X.xe s
theorem pg_run {X : Cx} {tg : Expr} : PG X tg (RunG X tg) := ⟨fun pins s _ _ _ u _ I r h => h.r pins s u I r⟩
structure RunGs (X : Cx) (ts : List Expr) (vs : List V) (σ : L2.St) (H : Hp) (Q : L2.St → Hp → Prop) : Prop where of ::
  r : ∀ (pins : List (Addr × Obj)) (s : Shared) (us : List Value), Inv X pins σ H s → Vals vs us → wpAny (model X.prog X.w) X.A (assignInOrder ((assignEach ts X.env).map (·.2)) us) (fun _ s' => ∃ σ' H', Inv X pins σ' H' s' ∧ Q σ' H') X.xe s
theorem pgs_run {X : Cx} {ts : List Expr} : PGs X ts (RunGs X ts) := ⟨fun pins s _ _ _ us _ I r h => h.r pins s us I r⟩
section
variable {X : Cx} {e : Expr} {es : List Expr} {st : Stmt} {sts : List Stmt} {σ : L2.St} {H : Hp} {D : Ends}
theorem PE.go {t : TE} {Q : VK} (h : PE X e t) (q : t σ H Q) : RunE X e σ H Q := ⟨fun pins s I => h.run pins s σ H Q I q⟩
theorem PT.go {t : TT} {Q : Bool → Hp → Prop} (h : PT X e t) (q : t σ H Q) : RunT X e σ H Q := ⟨fun pins s I => h.run pins s σ H Q I q⟩
theorem PW.go {t : TT} {Q : Bool → Hp → Prop} (h : PW X e t) (q : t σ H Q) : RunW X e σ H Q := ⟨fun wh pins s I => h.run wh pins s σ H Q I q⟩
theorem PA.go {t : TA} {Q : List V → Hp → Prop} (h : PA X es t) (q : t σ H Q) : RunA X es σ H Q := ⟨fun pos pins s I => h.run pos pins s σ H Q I q⟩
theorem PS.go {t : TS} (h : PS X st t) (q : t D σ H) : RunS X st D σ H := ⟨fun pins s I => h.run pins s σ H D I q⟩
theorem PSs.go {t : TS} (h : PSs X sts t) (q : t D σ H) : RunB X sts D σ H := ⟨fun pins s I => h.run pins s σ H D I q⟩
theorem PG.go {tg : Expr} {t : TG} {v : V} {Q : L2.St → Hp → Prop} (h : PG X tg t) (q : t v σ H Q) : RunG X tg v σ H Q := ⟨fun pins s u I r => h.run pins s σ H v u Q I r q⟩
theorem PGs.go {ts : List Expr} {t : TGs} {vs : List V} {Q : L2.St → Hp → Prop} (h : PGs X ts t) (q : t vs σ H Q) : RunGs X ts vs σ H Q := ⟨fun pins s us I r => h.run pins s σ H vs us Q I r q⟩
/-- at the end the abstract heap may be locked further -/
theorem RunE.fix {Q : VK} (h : RunE X e σ H fun v H1 => ∀ pins s, Inv X pins σ H1 s → ∃ H2, Inv X pins σ H2 s ∧ Q v H2) : RunE X e σ H Q := .of fun pins s I =>
  thn (h.r pins s I) fun u s' ⟨v, H1, I1, r, q⟩ => let ⟨H2, I2, q2⟩ := q pins s' I1; ⟨v, H2, I2, r, q2⟩
end

/-! ### a tree becomes data -/
mutual
theorem TIs.freeze {X : Cx} {pins : List (Addr × Obj)} {σ : L2.St} {s : Shared} {F : Fm} {G H : Hp} {v : V} {t : T} {B : List Addr} (h : TIs X.K G H v t B) {A : List Addr} (f : Rel F G H (B ++ A)) (I : Inv X pins σ H s) :
    ∃ G' H', Inv X pins σ H' s ∧ Same G G' ∧ (∀ a ∈ A, H' a = H a) ∧ Is X.K G' v t.frz ∧ Rel F G' H' A := by
  cases h with
  | d h => exact ⟨G, H, I, Same.refl G, fun _ _ => rfl, h, f⟩
  | @lst a xs ds h r =>
    obtain ⟨f2, s2⟩ := Rel.freeze (A := A) f h
    exact ⟨_, H, I, s2, fun _ _ => rfl, .lst upd_same (r.up s2), f2⟩
  | @dict a kv ks ds h hk r =>
    obtain ⟨od, I2⟩ := Inv.lock I h trivial
    have hn : ∀ b ∈ A, b ≠ a := fun b hb e => f.dj b hb (e ▸ List.mem_cons_self)
    obtain ⟨f2, s2⟩ := Rel.freeze (A := A) (f.put (a := a) (o := .frz od (.dK kv)) List.mem_cons_self) upd_same
    exact ⟨_, _, I2, s2, upd_off hn, .dict upd_same hk (r.up s2), f2⟩
  | @dictT a kv ks ds h hk r =>
    obtain ⟨od, I2⟩ := Inv.lock I h trivial
    have hn : ∀ b ∈ A, b ≠ a := fun b hb e => f.dj b hb (e ▸ List.mem_cons_self)
    obtain ⟨f2, s2⟩ := Rel.freeze (A := A) (f.put (a := a) (o := .frz od (.dT kv)) List.mem_cons_self) upd_same
    exact ⟨_, _, I2, s2, upd_off hn, .dictT upd_same hk (r.up s2), f2⟩
  | @inst a dx C fs ns ts B0 h hn r =>
    have f1 : Rel F G H (B0 ++ (a :: A)) := f.perm (by
      show (a :: (B0 ++ A)).Perm _
      exact List.perm_middle.symm)
    obtain ⟨G1, H1, I1, s1, k1, i1, f2⟩ := TIsL.freeze r f1 I
    obtain ⟨f3, s3⟩ := Rel.freeze f2 ((k1 a List.mem_cons_self).trans h)
    exact ⟨_, H1, I1, s1.trans s3, fun b hb => k1 b (List.mem_cons_of_mem _ hb), .inst upd_same hn (i1.up s3), f3⟩
theorem TIsL.freeze {X : Cx} {pins : List (Addr × Obj)} {σ : L2.St} {s : Shared} {F : Fm} {G H : Hp} {vs : List V} {ts : List T} {B : List Addr} (h : TIsL X.K G H vs ts B) {A : List Addr} (f : Rel F G H (B ++ A)) (I : Inv X pins σ H s) :
    ∃ G' H', Inv X pins σ H' s ∧ Same G G' ∧ (∀ a ∈ A, H' a = H a) ∧ IsL X.K G' vs (frzL ts) ∧ Rel F G' H' A := by
  cases h with
  | nil => exact ⟨G, H, I, Same.refl G, fun _ _ => rfl, .nil, f⟩
  | @cons v vs t ts B1 B2 h r =>
    rw [List.append_assoc] at f
    obtain ⟨G1, H1, I1, s1, k1, i1, f1⟩ := TIs.freeze h f I
    obtain ⟨G2, H2, I2, s2, k2, i2, f2⟩ := TIsL.freeze (r.up s1 fun a ha => k1 a (List.mem_append_left _ ha)) f1 I1
    exact ⟨G2, H2, I2, s1.trans s2, fun a ha => (k2 a ha).trans (k1 a (List.mem_append_right _ ha)), .cons (i1.up s2) i2, f2⟩
end

/-! ### judgements -/
def XC.val (K : PySem.W.Frag) : XC → Value
  | .own c => .ref (He.ga K c)
  | .blt n => .type n
/-- an exception of the class c with the fields fs -/
def ExcIs (K : PySem.W.Frag) (G : Hp) (c : XC) (fs : Fds) (cls : Value) (dx : Option Addr) : Prop :=
  cls = c.val K ∧ ((fs = [] ∧ dx = none) ∨ ∃ a kv, dx = some a ∧ G a = some (.xd kv) ∧ kv.map (·.1) = fs.map (·.1) ∧ IsL K G (kv.map (·.2)) (fs.map (·.2)))
theorem ExcIs.up {K : PySem.W.Frag} {G G' : Hp} {c : XC} {fs : Fds} {cls : Value} {dx : Option Addr} (s : Same G G') (h : ExcIs K G c fs cls dx) : ExcIs K G' c fs cls dx := by
  obtain ⟨h1, h2 | ⟨a, kv, h2, h3, h4, h5⟩⟩ := h
  · exact ⟨h1, .inl h2⟩
  · exact ⟨h1, .inr ⟨a, kv, h2, s _ _ h3, h4, h5.up s⟩⟩
def Rs.post {α : Type} (r : Rs α) (ok : α → Ev → Prop) (ex : XC → Fds → Ev → Prop) : Prop := match r with
  | .ok a e => ok a e
  | .exc c fs e => ex c fs e
  | .stuck => False
section
variable (X : Cx) (W : WX) (F : Fm) (ps : List V)
def exP (G : Hp) (c : XC) (fs : Fds) (env' : Ev) : Prop :=
  ∀ cls dx σ' G' H' A', Same G G' → EvIs X.K G' H' ps σ' env' A' → Rel F G' H' A' → ExcIs X.K G' c fs cls dx → W cls dx σ' H'
def okE (σ : L2.St) (G : Hp) (Q : VK) (t : T) (env' : Ev) : Prop :=
  ∀ v G' H' A' B, Same G G' → EvIs X.K G' H' ps σ env' A' → TIs X.K G' H' v t B → Rel F G' H' (B ++ A') → Q v H'
def okT (σ : L2.St) (G : Hp) (Q : Bool → Hp → Prop) (b : Bool) (env' : Ev) : Prop :=
  ∀ G' H' A', Same G G' → EvIs X.K G' H' ps σ env' A' → Rel F G' H' A' → Q b H'
def okA (σ : L2.St) (G : Hp) (Q : List V → Hp → Prop) (ds : List D) (env' : Ev) : Prop :=
  ∀ vs G' H' A', Same G G' → EvIs X.K G' H' ps σ env' A' → IsL X.K G' vs ds → Rel F G' H' A' → Q vs H'
def okS (D : Ends) (G : Hp) (w : Fw) (env' : Ev) : Prop := match w with
  | .nx => ∀ σ' G' H' A', Same G G' → EvIs X.K G' H' ps σ' env' A' → Rel F G' H' A' → D.nx σ' H'
  | .rt t => ∀ v σ' G' H' A' B, Same G G' → EvIs X.K G' H' ps σ' env' A' → TIs X.K G' H' v t B → Rel F G' H' (B ++ A') → D.rt v H'
  | .bk => ∀ σ' G' H' A', Same G G' → EvIs X.K G' H' ps σ' env' A' → Rel F G' H' A' → D.bk σ' H'
  | .ct => ∀ σ' G' H' A', Same G G' → EvIs X.K G' H' ps σ' env' A' → Rel F G' H' A' → D.ct σ' H'
end
section
variable {X : Cx} {W : WX} {F : Fm} {ps : List V} {σ : L2.St} {G G1 H : Hp} {A : List Addr} {env : Ev}
theorem exP.up (s : Same G G1) {c : XC} {fs : Fds} (h : exP X W F ps G c fs env) : exP X W F ps G1 c fs env := fun cls dx σ' G' H' A' s' => h cls dx σ' G' H' A' (s.trans s')
theorem okE.up (s : Same G G1) {t : T} {Q : VK} (h : okE X F ps σ G Q t env) : okE X F ps σ G1 Q t env := fun v G' H' A' B s' => h v G' H' A' B (s.trans s')
theorem okT.up (s : Same G G1) {t : Bool} {Q : Bool → Hp → Prop} (h : okT X F ps σ G Q t env) : okT X F ps σ G1 Q t env := fun G' H' A' s' => h G' H' A' (s.trans s')
theorem okA.up (s : Same G G1) {t : List D} {Q : List V → Hp → Prop} (h : okA X F ps σ G Q t env) : okA X F ps σ G1 Q t env := fun v G' H' A' s' => h v G' H' A' (s.trans s')
theorem okS.up (s : Same G G1) {w : Fw} {D : Ends} (h : okS X F ps D G w env) : okS X F ps D G1 w env := by
  cases w with
  | nx => exact fun σ' G' H' A' s' => h σ' G' H' A' (s.trans s')
  | rt t => exact fun v σ' G' H' A' B s' => h v σ' G' H' A' B (s.trans s')
  | bk => exact fun σ' G' H' A' s' => h σ' G' H' A' (s.trans s')
  | ct => exact fun σ' G' H' A' s' => h σ' G' H' A' (s.trans s')
theorem Rs.post.imp {α : Type} {r : Rs α} {ok ok' : α → Ev → Prop} {ex ex' : XC → Fds → Ev → Prop} (h : r.post ok ex) (k : ∀ a e, r = .ok a e → ok a e → ok' a e) (k2 : ∀ c fs e, r = .exc c fs e → ex c fs e → ex' c fs e) : r.post ok' ex' := by
  cases r with
  | ok a e => exact k a e rfl h
  | exc c fs e => exact k2 c fs e rfl h
  | stuck => exact h
theorem post_up {α : Type} {r : Rs α} {ok : α → Ev → Prop} (s : Same G G1) (h : r.post ok (exP X W F ps G)) : r.post ok (exP X W F ps G1) := h.imp (fun _ _ _ h => h) fun _ _ _ _ h => h.up s
end
/-- e does what d says -/
def SE (X : Cx) (W : WX) (e : Expr) (d : DE) : Prop :=
  ∀ F ps σ G H A Q env, EvIs X.K G H ps σ env A → Rel F G H A → (d env).post (okE X F ps σ G Q) (exP X W F ps G) → RunE X e σ H Q
def ST (X : Cx) (W : WX) (e : Expr) (d : Ev → Rs Bool) : Prop :=
  ∀ F ps σ G H A Q env, EvIs X.K G H ps σ env A → Rel F G H A → (d env).post (okT X F ps σ G Q) (exP X W F ps G) → RunT X e σ H Q
def SW (X : Cx) (W : WX) (e : Expr) (d : Ev → Rs Bool) : Prop :=
  ∀ F ps σ G H A Q env, EvIs X.K G H ps σ env A → Rel F G H A → (d env).post (okT X F ps σ G Q) (exP X W F ps G) → RunW X e σ H Q
def SA (X : Cx) (W : WX) (es : List Expr) (d : Ev → Rs (List D)) : Prop :=
  ∀ F ps σ G H A Q env, EvIs X.K G H ps σ env A → Rel F G H A → (d env).post (okA X F ps σ G Q) (exP X W F ps G) → RunA X es σ H Q
def SS (X : Cx) (W : WX) (st : Stmt) (d : DS) : Prop :=
  ∀ F ps σ G H A D env, EvIs X.K G H ps σ env A → Rel F G H A → (d env).post (okS X F ps D G) (exP X W F ps G) → RunS X st D σ H
def SB (X : Cx) (W : WX) (sts : List Stmt) (d : DS) : Prop :=
  ∀ F ps σ G H A D env, EvIs X.K G H ps σ env A → Rel F G H A → (d env).post (okS X F ps D G) (exP X W F ps G) → RunB X sts D σ H

section
variable {X : Cx} {W : WX} {F : Fm} {ps : List V} {σ : L2.St} {G H : Hp} {A : List Addr} {env : Ev} {β : Type} {ok : β → Ev → Prop} {e : Expr} {es : List Expr} {d : DE} {K1 : VK}
theorem SE.seq (h : SE X W e d) {f : T → Ev → Rs β} (I : EvIs X.K G H ps σ env A) (R : Rel F G H A) (P : ((d env).bind f).post ok (exP X W F ps G))
    (k : ∀ t env' v G' H' A' B, Same G G' → EvIs X.K G' H' ps σ env' A' → TIs X.K G' H' v t B → Rel F G' H' (B ++ A') → (f t env').post ok (exP X W F ps G') → K1 v H') : RunE X e σ H K1 := by
  refine h F ps σ G H A K1 env I R ?_
  cases q : d env with
  | ok t env' =>
    rw [q] at P
    exact fun v G' H' A' B s I' i R' => k t env' v G' H' A' B s I' i R' (post_up s P)
  | exc c fs env' => rw [q] at P; exact P
  | stuck => rw [q] at P; exact P
theorem SE.seqD (h : SE X W e d) {f : D → Ev → Rs β} (I : EvIs X.K G H ps σ env A) (R : Rel F G H A) (P : ((d env).bindD f).post ok (exP X W F ps G))
    (k : ∀ x env' v G' H' A', Same G G' → EvIs X.K G' H' ps σ env' A' → Is X.K G' v x → Rel F G' H' A' → (f x env').post ok (exP X W F ps G') → K1 v H') : RunE X e σ H K1 := by
  refine RunE.fix (h F ps σ G H A _ env I R ?_)
  cases q : d env with
  | ok t env' =>
    rw [q] at P
    intro v G' H' A' B s I' i R' pins sh J
    obtain ⟨G2, H2, J2, s2, k2, i2, R2⟩ := i.freeze R' J
    exact ⟨H2, J2, k t.frz env' v G2 H2 A' (s.trans s2) (I'.up s2 k2) i2 R2 (post_up (s.trans s2) P)⟩
  | exc c fs env' => rw [q] at P; exact P
  | stuck => rw [q] at P; exact P
theorem ST.seq {d : Ev → Rs Bool} {K1 : Bool → Hp → Prop} (h : ST X W e d) {f : Bool → Ev → Rs β} (I : EvIs X.K G H ps σ env A) (R : Rel F G H A) (P : ((d env).bind f).post ok (exP X W F ps G))
    (k : ∀ b env' G' H' A', Same G G' → EvIs X.K G' H' ps σ env' A' → Rel F G' H' A' → (f b env').post ok (exP X W F ps G') → K1 b H') : RunT X e σ H K1 := by
  refine h F ps σ G H A K1 env I R ?_
  cases q : d env with
  | ok t env' =>
    rw [q] at P
    exact fun G' H' A' s I' R' => k t env' G' H' A' s I' R' (post_up s P)
  | exc c fs env' => rw [q] at P; exact P
  | stuck => rw [q] at P; exact P
theorem SW.seq {d : Ev → Rs Bool} {K1 : Bool → Hp → Prop} (h : SW X W e d) {f : Bool → Ev → Rs β} (I : EvIs X.K G H ps σ env A) (R : Rel F G H A) (P : ((d env).bind f).post ok (exP X W F ps G))
    (k : ∀ b env' G' H' A', Same G G' → EvIs X.K G' H' ps σ env' A' → Rel F G' H' A' → (f b env').post ok (exP X W F ps G') → K1 b H') : RunW X e σ H K1 := by
  refine h F ps σ G H A K1 env I R ?_
  cases q : d env with
  | ok t env' =>
    rw [q] at P
    exact fun G' H' A' s I' R' => k t env' G' H' A' s I' R' (post_up s P)
  | exc c fs env' => rw [q] at P; exact P
  | stuck => rw [q] at P; exact P
theorem SA.seq {d : Ev → Rs (List D)} {K1 : List V → Hp → Prop} (h : SA X W es d) {f : List D → Ev → Rs β} (I : EvIs X.K G H ps σ env A) (R : Rel F G H A) (P : ((d env).bind f).post ok (exP X W F ps G))
    (k : ∀ ds env' vs G' H' A', Same G G' → EvIs X.K G' H' ps σ env' A' → IsL X.K G' vs ds → Rel F G' H' A' → (f ds env').post ok (exP X W F ps G') → K1 vs H') : RunA X es σ H K1 := by
  refine h F ps σ G H A K1 env I R ?_
  cases q : d env with
  | ok t env' =>
    rw [q] at P
    exact fun vs G' H' A' s I' i R' => k t env' vs G' H' A' s I' i R' (post_up s P)
  | exc c fs env' => rw [q] at P; exact P
  | stuck => rw [q] at P; exact P
end
end Dn

namespace Dn
open PySem PySem.Spec PyProof.Rows L2
/-! ### slots -/
def getS : Ev → Nat → Slot
  | [], _ => .none
  | s :: _, 0 => s
  | _ :: r, i + 1 => getS r i
def setS : Ev → Nat → Slot → Ev
  | [], _, _ => []
  | _ :: r, 0, s => s :: r
  | x :: r, i + 1, s => x :: setS r i s
theorem perm3 {α : Type} (a b c : List α) : (a ++ (b ++ c)).Perm (b ++ (a ++ c)) := by
  rw [← List.append_assoc, ← List.append_assoc]
  exact List.Perm.append_right c List.perm_append_comm
section
variable {K : PySem.W.Frag} {G H : Hp} {ps : List V} {σ : L2.St} {env : Ev} {A : List Addr}
def Pulled (K : PySem.W.Frag) (G H : Hp) (ps : List V) (σ : L2.St) (env : Ev) (A : List Addr) (i : Nat) : Prop := match getS env i with
  | .none => True
  | .loc t => ∃ v B C, σ[i]? = some (some v) ∧ TIs K G H v t B ∧ A.Perm (B ++ C) ∧ ∀ G' H' v' t' B', Same G G' → (∀ a ∈ C, H' a = H a) → TIs K G' H' v' t' B' → ∃ A', EvIs K G' H' ps (σ.set i (some v')) (setS env i (.loc t')) A' ∧ A'.Perm (B' ++ C)
  | .par t => ∃ v B C, σ[i]? = some (some v) ∧ TIs K G H v t B ∧ A.Perm (B ++ C) ∧ ∀ G' H' t' B', Same G G' → (∀ a ∈ C, H' a = H a) → TIs K G' H' v t' B' → ∃ A', EvIs K G' H' ps σ (setS env i (.par t')) A' ∧ A'.Perm (B' ++ C)
theorem EvIs.pull (h : EvIs K G H ps σ env A) : ∀ i, Pulled K G H ps σ env A i := by
  induction h with
  | nil => intro i; cases i <;> trivial
  | @none ps o σ env A r ih =>
    intro i
    cases i with
    | zero => trivial
    | succ i =>
      have := ih i
      unfold Pulled at this ⊢
      rw [show getS (.none :: env) (i + 1) = getS env i from rfl]
      cases q : getS env i with
      | none => trivial
      | loc t =>
        rw [q] at this
        obtain ⟨v, B, C, h1, h2, h3, h4⟩ := this
        refine ⟨v, B, C, by simpa using h1, h2, h3, fun G' H' v' t' B' s k t => ?_⟩
        obtain ⟨A', e, p⟩ := h4 G' H' v' t' B' s k t
        exact ⟨A', .none e, p⟩
      | par t =>
        rw [q] at this
        obtain ⟨v, B, C, h1, h2, h3, h4⟩ := this
        refine ⟨v, B, C, by simpa using h1, h2, h3, fun G' H' t' B' s k t => ?_⟩
        obtain ⟨A', e, p⟩ := h4 G' H' t' B' s k t
        exact ⟨A', .none e, p⟩
  | @loc ps w u σ env A1 B1 hw r ih =>
    intro i
    cases i with
    | zero => exact ⟨w, A1, B1, rfl, hw, List.Perm.refl _, fun G' H' v' t' B' s k t => ⟨B' ++ B1, .loc t (r.up s k), List.Perm.refl _⟩⟩
    | succ i =>
      have := ih i
      unfold Pulled at this ⊢
      rw [show getS (.loc u :: env) (i + 1) = getS env i from rfl]
      cases q : getS env i with
      | none => trivial
      | loc t =>
        rw [q] at this
        obtain ⟨v, B, C, h1, h2, h3, h4⟩ := this
        refine ⟨v, B, A1 ++ C, by simpa using h1, h2, (List.Perm.append_left A1 h3).trans (perm3 _ _ _), fun G' H' v' t' B' s k t => ?_⟩
        obtain ⟨A', e, p⟩ := h4 G' H' v' t' B' s (fun a ha => k a (List.mem_append_right _ ha)) t
        exact ⟨A1 ++ A', .loc (hw.up s fun a ha => k a (List.mem_append_left _ ha)) e, (List.Perm.append_left A1 p).trans (perm3 _ _ _)⟩
      | par t =>
        rw [q] at this
        obtain ⟨v, B, C, h1, h2, h3, h4⟩ := this
        refine ⟨v, B, A1 ++ C, by simpa using h1, h2, (List.Perm.append_left A1 h3).trans (perm3 _ _ _), fun G' H' t' B' s k t => ?_⟩
        obtain ⟨A', e, p⟩ := h4 G' H' t' B' s (fun a ha => k a (List.mem_append_right _ ha)) t
        exact ⟨A1 ++ A', .loc (hw.up s fun a ha => k a (List.mem_append_left _ ha)) e, (List.Perm.append_left A1 p).trans (perm3 _ _ _)⟩
  | @par ps w u σ env A1 B1 hw r ih =>
    intro i
    cases i with
    | zero => exact ⟨w, A1, B1, rfl, hw, List.Perm.refl _, fun G' H' t' B' s k t => ⟨B' ++ B1, .par t (r.up s k), List.Perm.refl _⟩⟩
    | succ i =>
      have := ih i
      unfold Pulled at this ⊢
      rw [show getS (.par u :: env) (i + 1) = getS env i from rfl]
      cases q : getS env i with
      | none => trivial
      | loc t =>
        rw [q] at this
        obtain ⟨v, B, C, h1, h2, h3, h4⟩ := this
        refine ⟨v, B, A1 ++ C, by simpa using h1, h2, (List.Perm.append_left A1 h3).trans (perm3 _ _ _), fun G' H' v' t' B' s k t => ?_⟩
        obtain ⟨A', e, p⟩ := h4 G' H' v' t' B' s (fun a ha => k a (List.mem_append_right _ ha)) t
        exact ⟨A1 ++ A', .par (hw.up s fun a ha => k a (List.mem_append_left _ ha)) e, (List.Perm.append_left A1 p).trans (perm3 _ _ _)⟩
      | par t =>
        rw [q] at this
        obtain ⟨v, B, C, h1, h2, h3, h4⟩ := this
        refine ⟨v, B, A1 ++ C, by simpa using h1, h2, (List.Perm.append_left A1 h3).trans (perm3 _ _ _), fun G' H' t' B' s k t => ?_⟩
        obtain ⟨A', e, p⟩ := h4 G' H' t' B' s (fun a ha => k a (List.mem_append_right _ ha)) t
        exact ⟨A1 ++ A', .par (hw.up s fun a ha => k a (List.mem_append_left _ ha)) e, (List.Perm.append_left A1 p).trans (perm3 _ _ _)⟩
theorem set_fix {i : Nat} {v : V} (ev : σ[i]? = some (some v)) : σ.set i (some v) = σ := by
  apply List.ext_getElem?
  intro j
  by_cases e : i = j
  · subst e
    have hl : i < σ.length := (List.getElem?_eq_some_iff.mp ev).1
    rw [List.getElem?_set_self hl, ev]
  · rw [List.getElem?_set_ne e]
/-- the tree at a slot; how another is put there in place -/
def treeS : Slot → Option T
  | .none => none
  | .loc t => some t
  | .par t => some t
/-- the slot with another tree -/
def reS : Slot → T → Slot
  | .none, _ => .none
  | .loc _, t => .loc t
  | .par _, t => .par t
theorem EvIs.tree (h : EvIs K G H ps σ env A) {i : Nat} {t : T} (e : treeS (getS env i) = some t) : ∃ v B C, σ[i]? = some (some v) ∧ TIs K G H v t B ∧ A.Perm (B ++ C) ∧
    ∀ G' H' t' B', Same G G' → (∀ a ∈ C, H' a = H a) → TIs K G' H' v t' B' → ∃ A', EvIs K G' H' ps σ (setS env i (reS (getS env i) t')) A' ∧ A'.Perm (B' ++ C) := by
  have := h.pull i
  unfold Pulled at this
  cases q : getS env i with
  | none => rw [q] at e; cases e
  | loc u =>
    rw [q] at e this
    cases e
    obtain ⟨v, B, C, h1, h2, h3, h4⟩ := this
    refine ⟨v, B, C, h1, h2, h3, fun G' H' t' B' s k t => ?_⟩
    obtain ⟨A', e, p⟩ := h4 G' H' v t' B' s k t
    rw [set_fix h1] at e
    exact ⟨A', e, p⟩
  | par u =>
    rw [q] at e this
    cases e
    exact this
theorem setS_self : ∀ (env : Ev) (i : Nat), setS env i (getS env i) = env
  | [], _ => rfl
  | _ :: _, 0 => rfl
  | x :: r, i + 1 => congrArg (x :: ·) (setS_self r i)
theorem reS_self {s : Slot} {t : T} (e : treeS s = some t) : reS s t = s := by
  cases s with
  | none => cases e
  | loc u => cases e; rfl
  | par u => cases e; rfl
def isPar : Slot → Bool
  | .par _ => true
  | _ => false
/-- a slot that is no kept parameter gets a tree -/
theorem EvIs.put (h : EvIs K G H ps σ env A) : ∀ {i : Nat} {v : V} {t : T} {B : List Addr}, isPar (getS env i) = false → TIs K G H v t B → ∃ A' C, EvIs K G H ps (σ.set i (some v)) (setS env i (.loc t)) A' ∧ (∀ a ∈ A', a ∈ B ++ A) ∧ ((B ++ A).Nodup → A'.Nodup) ∧ A'.Perm C := by
  induction h with
  | nil => intro i v t B hp ht; exact ⟨[], [], .nil, fun a ha => (by cases ha), fun _ => .nil, List.Perm.refl _⟩
  | @none ps o σ env A r ih =>
    intro i v t B hp ht
    cases i with
    | zero => exact ⟨B ++ A, _, .loc ht r, fun a ha => ha, fun h => h, List.Perm.refl _⟩
    | succ i =>
      obtain ⟨A', C, e, m, n, p⟩ := ih (i := i) hp ht
      exact ⟨A', C, .none e, m, n, p⟩
  | @loc ps w u σ env A1 B1 hw r ih =>
    intro i v t B hp ht
    cases i with
    | zero =>
      refine ⟨B ++ B1, _, .loc ht r, fun a ha => ?_, fun h => ?_, List.Perm.refl _⟩
      · rcases List.mem_append.mp ha with z | z
        · exact List.mem_append_left _ z
        · exact List.mem_append_right _ (List.mem_append_right _ z)
      · have h1 := (perm3 B A1 B1).nodup_iff.mp h
        exact (List.nodup_append.mp h1).2.1
    | succ i =>
      obtain ⟨A', C, e, m, n, p⟩ := ih (i := i) hp ht
      refine ⟨A1 ++ A', _, .loc hw e, fun a ha => ?_, fun h => ?_, List.Perm.refl _⟩
      · rcases List.mem_append.mp ha with z | z
        · exact List.mem_append_right _ (List.mem_append_left _ z)
        · rcases List.mem_append.mp (m a z) with z | z
          · exact List.mem_append_left _ z
          · exact List.mem_append_right _ (List.mem_append_right _ z)
      · have h1 := (perm3 B A1 B1).nodup_iff.mp h
        obtain ⟨a1, a2, a3⟩ := List.nodup_append.mp h1
        exact List.nodup_append.mpr ⟨a1, n a2, fun a ha b hb => a3 a ha b (m b hb)⟩
  | @par ps w u σ env A1 B1 hw r ih =>
    intro i v t B hp ht
    cases i with
    | zero => cases hp
    | succ i =>
      obtain ⟨A', C, e, m, n, p⟩ := ih (i := i) hp ht
      refine ⟨A1 ++ A', _, .par hw e, fun a ha => ?_, fun h => ?_, List.Perm.refl _⟩
      · rcases List.mem_append.mp ha with z | z
        · exact List.mem_append_right _ (List.mem_append_left _ z)
        · rcases List.mem_append.mp (m a z) with z | z
          · exact List.mem_append_left _ z
          · exact List.mem_append_right _ (List.mem_append_right _ z)
      · have h1 := (perm3 B A1 B1).nodup_iff.mp h
        obtain ⟨a1, a2, a3⟩ := List.nodup_append.mp h1
        exact List.nodup_append.mpr ⟨a1, n a2, fun a ha b hb => a3 a ha b (m b hb)⟩
theorem EvIs.putR {F : Fm} (h : EvIs K G H ps σ env A) {i : Nat} {v : V} {t : T} {B : List Addr} (hp : isPar (getS env i) = false) (ht : TIs K G H v t B) (R : Rel F G H (B ++ A)) : ∃ A', EvIs K G H ps (σ.set i (some v)) (setS env i (.loc t)) A' ∧ Rel F G H A' := by
  obtain ⟨A', C, e, m, n, p⟩ := h.put hp ht
  exact ⟨A', e, R.sub m (n R.nd)⟩
/-- a slot forgotten -/
theorem EvIs.unset (h : EvIs K G H ps σ env A) : ∀ {i : Nat}, isPar (getS env i) = false → ∃ A', EvIs K G H ps (σ.set i Option.none) (setS env i .none) A' ∧ A'.Sublist A := by
  induction h with
  | nil => intro i hp; exact ⟨[], .nil, List.Sublist.refl _⟩
  | @none ps o σ env A r ih =>
    intro i hp
    cases i with
    | zero => exact ⟨A, .none r, List.Sublist.refl _⟩
    | succ i =>
      obtain ⟨A', e, s⟩ := ih (i := i) hp
      exact ⟨A', .none e, s⟩
  | @loc ps w u σ env A1 B1 hw r ih =>
    intro i hp
    cases i with
    | zero => exact ⟨B1, .none r, List.sublist_append_right _ _⟩
    | succ i =>
      obtain ⟨A', e, s⟩ := ih (i := i) hp
      exact ⟨A1 ++ A', .loc hw e, List.Sublist.append_left s _⟩
  | @par ps w u σ env A1 B1 hw r ih =>
    intro i hp
    cases i with
    | zero => cases hp
    | succ i =>
      obtain ⟨A', e, s⟩ := ih (i := i) hp
      exact ⟨A1 ++ A', .par hw e, List.Sublist.append_left s _⟩
end
def isD : T → Bool
  | .d _ => true
  | _ => false
theorem isD_frz {t : T} (h : isD t = true) : t = .d t.frz := by
  cases t with
  | d x => rfl
  | _ => cases h
/-- a name's value; a tree of our own becomes data there -/
def dVar (i : Nat) : DE := fun env => match treeS (getS env i) with
  | some t => .ok (.d t.frz) (if isD t = true then env else setS env i (reS (getS env i) (.d t.frz)))
  | none => .stuck
def dC (x : D) : DE := fun env => .ok (.d x) env
section
variable {X : Cx} {W : WX} {e e2 e3 : Expr} {d d2 d3 : DE} {pos : Pos} {x : Str} {i : Nat}
def visB (sc : Scope) (x : Str) : Bool := match sc.names.lookup x with
  | some .local => true
  | some .cell => true
  | some .free => true
  | _ => false
theorem vis_of {sc : Scope} {x : Str} (h : visB sc x = true) : Vis sc x := by
  unfold visB at h
  cases q : sc.names.lookup x with
  | none => rw [q] at h; cases h
  | some k =>
    rw [q] at h
    cases k with
    | «local» => exact .inl q
    | cell => exact .inr (.inl q)
    | free => exact .inr (.inr q)
    | _ => cases h
theorem SE.var (hN : X.N[i]? = some x) (hv : visB X.env.scope x = true) (hd : (x == ("__debug__" : Str)) = false) (hcd : (x == ("__classdict__" : Str)) = false) : SE X W (.Name x pos) (dVar i) := fun F ps σ G H A Q env I R P => by
  unfold dVar at P
  cases q : treeS (getS env i) with
  | none => rw [q] at P; exact P.elim
  | some t =>
    rw [q] at P
    obtain ⟨v, B, C, h1, h2, h3, h4⟩ := I.tree q
    refine RunE.fix (PE.go (pe_var hN (vis_of hv) hd hcd) ⟨v, h1, fun pins s J => ?_⟩)
    by_cases hD : isD t = true
    · have P : okE X F ps σ G Q (.d t.frz) (if isD t = true then env else setS env i (reS (getS env i) (.d t.frz))) := P
      rw [if_pos hD] at P
      rw [isD_frz hD] at h2
      cases h2 with
      | d h2 => exact ⟨H, J, P v G H A [] (Same.refl G) I (.d h2) R⟩
    · have P : okE X F ps σ G Q (.d t.frz) (if isD t = true then env else setS env i (reS (getS env i) (.d t.frz))) := P
      rw [if_neg hD] at P
      obtain ⟨G2, H2, J2, s2, k2, i2, R2⟩ := h2.freeze (R.perm h3) J
      obtain ⟨A', e', p⟩ := h4 G2 H2 (.d t.frz) [] s2 k2 (.d i2)
      exact ⟨H2, J2, P v G2 H2 A' [] s2 e' (.d i2) (R2.perm p.symm)⟩
theorem SE.int {n : Int} {j : Nat} : SE X W (.Constant (.int n) j pos) (dC (.int n)) := fun F ps σ G H A Q env I R P => PE.go pe_int (P _ G H A [] (Same.refl G) I (.d (.int n)) R)
theorem SE.bl {n : Bool} {j : Nat} : SE X W (.Constant (.bool n) j pos) (dC (.bool n)) := fun F ps σ G H A Q env I R P => PE.go pe_bl (P _ G H A [] (Same.refl G) I (.d (.bl n)) R)
theorem SE.non {j : Nat} : SE X W (.Constant .none j pos) (dC .none) := fun F ps σ G H A Q env I R P => PE.go pe_non (P _ G H A [] (Same.refl G) I (.d .non) R)
theorem SE.str {n : Str} {j : Nat} : SE X W (.Constant (.str n) j pos) (dC (.str n)) := fun F ps σ G H A Q env I R P => PE.go pe_str (P _ G H A [] (Same.refl G) I (.d (.str n)) R)
/-- a constant of the module -/
theorem SE.globI {n : Int} (h : ∃ t, X.mg x = some (.int n t)) (hg : Gl X x) (hd : (x == ("__debug__" : Str)) = false) : SE X W (.Name x pos) (dC (.int n)) := fun F ps σ G H A Q env I R P => by
  obtain ⟨t, h⟩ := h
  exact PE.go (pe_glob (v := .int n) hg h ⟨t, rfl⟩ hd) (P _ G H A [] (Same.refl G) I (.d (.int n)) R)
theorem SE.globS {n : Str} (h : ∃ t, X.mg x = some (.str n t)) (hg : Gl X x) (hd : (x == ("__debug__" : Str)) = false) : SE X W (.Name x pos) (dC (.str n)) := fun F ps σ G H A Q env I R P => by
  obtain ⟨t, h⟩ := h
  exact PE.go (pe_glob (v := .str n) hg h ⟨t, rfl⟩ hd) (P _ G H A [] (Same.refl G) I (.d (.str n)) R)
end

/-! ### by values -/
def RunO (X : Cx) (f : Value → Value → Sem Value) (x y : V) (H : Hp) (Q : VK) : Prop := ∀ (pins : List (Addr × Obj)) (s : Shared) (σ : L2.St) (v u : Value), Inv X pins σ H s → RelV x v → RelV y u → wpAny (model X.prog X.w) X.A (f v u) (EP X pins σ Q) X.xe s
theorem opr_run {X : Cx} {f : Value → Value → Sem Value} : OpR X f (RunO X f) := fun pins s σ H x y v u Q I rx ry h => h pins s σ v u I rx ry
theorem OpR.go {X : Cx} {f : Value → Value → Sem Value} {r : R2} {x y : V} {H : Hp} {Q : VK} (h : OpR X f r) (q : r x y H Q) : RunO X f x y H Q := fun pins s σ v u I rx ry => h pins s σ H x y v u Q I rx ry q
def RunI (X : Cx) (x y : V) (H : Hp) (Q : VK) : Prop := ∀ (value slice : Expr) (pins : List (Addr × Obj)) (s : Shared) (σ : L2.St) (v u : Value), Inv X pins σ H s → RelV x v → RelV y u →
    subscripted slice false v u = operate [v, u] (getItem v u) → wpAny (model X.prog X.w) X.A (subscriptTail value slice v u) (EP X pins σ Q) X.xe s
theorem ixr_run {X : Cx} : IxR X (RunI X) := fun value slice pins s σ H x y v u Q I rx ry h hs => h value slice pins s σ v u I rx ry hs
theorem IxR.go {X : Cx} {r : R2} {x y : V} {H : Hp} {Q : VK} (h : IxR X r) (q : r x y H Q) : RunI X x y H Q := fun value slice pins s σ v u I rx ry hs => h value slice pins s σ H x y v u Q I rx ry q hs
def RunC (X : Cx) (f : Value) (xs : List V) (H : Hp) (Q : VK) : Prop := ∀ (pins : List (Addr × Obj)) (s : Shared) (σ : L2.St) (us : List Value), Inv X pins σ H s → Vals xs us → wpAny (model X.prog X.w) X.A (call f us) (EP X pins σ Q) X.xe s
theorem cr_run {X : Cx} {f : Value} : CallR X f (RunC X f) := fun pins s σ H xs us Q I r h => h pins s σ us I r
theorem CallR.go {X : Cx} {f : Value} {r : List V → Hp → VK → Prop} {xs : List V} {H : Hp} {Q : VK} (h : CallR X f r) (q : r xs H Q) : RunC X f xs H Q := fun pins s σ us I rx => h pins s σ H xs us Q I rx q
def RunU (X : Cx) (f : Value → Sem Value) (x : V) (H : Hp) (Q : VK) : Prop := ∀ (pins : List (Addr × Obj)) (s : Shared) (σ : L2.St) (v : Value), Inv X pins σ H s → RelV x v → wpAny (model X.prog X.w) X.A (f v) (EP X pins σ Q) X.xe s
theorem ur_run {X : Cx} {f : Value → Sem Value} : UnR X f (RunU X f) := fun pins s σ H x v Q I r h => h pins s σ v I r
theorem UnR.go {X : Cx} {f : Value → Sem Value} {r : V → Hp → VK → Prop} {x : V} {H : Hp} {Q : VK} (h : UnR X f r) (q : r x H Q) : RunU X f x H Q := fun pins s σ v I rx => h pins s σ H x v Q I rx q
/-- what is to be shown of an operation's end -/
def OkO (X : Cx) (F : Fm) (G H : Hp) (A : List Addr) (Q : VK) (t : T) : Prop := ∀ v G' H' B, Same G G' → (∀ a ∈ A, H' a = H a) → TIs X.K G' H' v t B → Rel F G' H' (B ++ A) → Q v H'
def ofO (o : Option T) (env : Ev) : Rs T := match o with
  | some t => .ok t env
  | none => .stuck
section
variable {X : Cx} {W : WX} {F : Fm} {G H : Hp} {A : List Addr} {Q : VK} {t : T} {e e2 : Expr} {d d2 : DE} {pos : Pos}
theorem OkO.data {x : D} {v : V} (k : OkO X F G H A Q (.d x)) (h : Is X.K G v x) (R : Rel F G H A) : Q v H := k v G H [] (Same.refl G) (fun _ _ => rfl) (.d h) R
theorem OkO.lst {xs : List V} {ds : List D} {p : Addr} (k : OkO X F G H A Q (.lst ds)) (h : IsL X.K G xs ds) (R : Rel F G H A) (hp : H p = none) : Q (.ref p) (upd H p (.lst xs)) :=
  k _ G _ [p] (Same.refl G) (upd_off (R.ne hp)) (.lst upd_same h) (R.mine hp)
theorem OkO.tup {xs : List V} {ds : List D} {p : Addr} (k : OkO X F G H A Q (.d (.tup ds))) (h : IsL X.K G xs ds) (R : Rel F G H A) (hp : H p = none) : Q (.ref p) (upd H p (.tup xs)) := by
  have s := Same.new (o := .tup xs) R.gh hp
  exact k _ _ _ [] s (upd_off (R.ne hp)) (.d (.tup upd_same (h.up s))) (R.new hp)
def OpD (X : Cx) (f : Value → Value → Sem Value) (o : D → D → Option T) : Prop := ∀ (F : Fm) (A : List Addr) (G H : Hp) (x y : V) (a b : D) (t : T) (Q : VK), Rel F G H A → Is X.K G x a → Is X.K G y b → o a b = some t → OkO X F G H A Q t → RunO X f x y H Q
def dBin (o : D → D → Option T) (d1 d2 : DE) : DE := fun env => (d1 env).bindD fun x env => (d2 env).bindD fun y env => ofO (o x y) env
/-- how an operation's end is an expression's -/
theorem okO_of {ps : List V} {σ : L2.St} {env : Ev} {G0 : Hp} (I : EvIs X.K G H ps σ env A) (R : Rel F G H A) (s : Same G0 G) (P : okE X F ps σ G0 Q t env) : OkO X F G H A Q t := fun v G' H' B s' k i R' => P v G' H' A B (s.trans s') (I.up s' k) i R'
theorem bin_run {op : Value → Value → Sem Value} {o : D → D → Option T} (ho : OpD X op o) (h1 : SE X W e d) (h2 : SE X W e2 d2) {ps : List V} {σ : L2.St} {env : Ev} (I : EvIs X.K G H ps σ env A) (R : Rel F G H A)
    (P : (dBin o d d2 env).post (okE X F ps σ G Q) (exP X W F ps G)) : RunE X e σ H fun x H1 => RunE X e2 σ H1 fun y H2 => RunO X op x y H2 Q :=
  h1.seqD I R P fun x env1 v G1 H1 A1 s1 I1 i1 R1 P1 => h2.seqD I1 R1 P1 fun y env2 u G2 H2 A2 s2 I2 i2 R2 P2 => by
    cases q : o x y with
    | none => rw [q] at P2; exact P2.elim
    | some t => rw [q] at P2; exact ho F A2 G2 H2 v u x y t Q R2 (i1.up s2) i2 q (okO_of I2 R2 (s1.trans s2) P2)
theorem SE.bin {op : Operator} {o : D → D → Option T} (ho : OpD X (binaryOp op) o) (h1 : SE X W e d) (h2 : SE X W e2 d2) : SE X W (.BinOp e op e2 pos) (dBin o d d2) := fun F ps σ G H A Q env I R P =>
  PE.go (pe_op opr_run pe_run pe_run) (bin_run ho h1 h2 I R P)
theorem SE.cmp {op : CmpOp} {o : D → D → Option T} (ho : OpD X (compareOp op) o) (hm : behindInMarks op e2 = false) (h1 : SE X W e d) (h2 : SE X W e2 d2) : SE X W (.Compare e [op] [e2] pos) (dBin o d d2) := fun F ps σ G H A Q env I R P =>
  PE.go (pe_cmpR opr_run pe_run pe_run hm) (bin_run ho h1 h2 I R P)
/-- as a test -/
def asB (d : DE) : Ev → Rs Bool := fun env => (d env).bind fun t env => match t with
  | .d (.bool b) => .ok b env
  | _ => .stuck
theorem ST.val (he : ∀ whole, isTrue e X.env whole = (do let v ← whole; standAt e.pos; holding [v] (truthy v))) (h : SE X W e d) : ST X W e (asB d) := fun F ps σ G H A Q env I R P =>
  PT.go (pt_val pe_run he) (h.seq I R P fun t env1 v G1 H1 A1 B s1 I1 i1 R1 P1 => by
    cases i1 with
    | d i1 =>
      cases i1 with
      | bl b => exact ⟨b, rfl, P1 G1 H1 A1 s1 I1 R1⟩
      | _ => exact P1.elim
    | _ => exact P1.elim)
theorem ST.cmp {op : CmpOp} {o : D → D → Option T} (ho : OpD X (compareOp op) o) (hm : behindInMarks op e2 = false) (h1 : SE X W e d) (h2 : SE X W e2 d2) : ST X W (.Compare e [op] [e2] pos) (asB (dBin o d d2)) := fun F ps σ G H A Q env I R P => by
  refine PT.go (pt_cmpR opr_run pe_run pe_run hm) ?_
  have Z : SE X W (.Compare e [op] [e2] pos) (dBin o d d2) := SE.cmp ho hm h1 h2
  unfold asB at P
  refine h1.seqD (ok := okT X F ps σ G Q) (f := fun x env => (((d2 env).bindD fun y env => ofO (o x y) env)).bind fun t env => match t with
    | .d (.bool b) => .ok b env
    | _ => .stuck) I R (by
      have : (dBin o d d2 env).bind (fun t env => match t with
        | .d (.bool b) => Rs.ok b env
        | _ => .stuck) = (d env).bindD (fun x env => (((d2 env).bindD fun y env => ofO (o x y) env)).bind fun t env => match t with
        | .d (.bool b) => .ok b env
        | _ => .stuck) := by unfold dBin; cases d env <;> rfl
      rw [this] at P; exact P) fun x env1 v G1 H1 A1 s1 I1 i1 R1 P1 => ?_
  refine h2.seqD (ok := okT X F ps σ G Q) (f := fun y env => (ofO (o x y) env).bind fun t env => match t with
    | .d (.bool b) => .ok b env
    | _ => .stuck) I1 R1 (by cases q : d2 env1 <;> rw [q] at P1 <;> exact P1) fun y env2 u G2 H2 A2 s2 I2 i2 R2 P2 => ?_
  cases q : o x y with
  | none => rw [q] at P2; exact P2.elim
  | some t =>
    rw [q] at P2
    refine ho F A2 G2 H2 v u x y t _ R2 (i1.up s2) i2 q fun v' G3 H3 B s3 k3 i3 R3 => ?_
    cases i3 with
    | d i3 =>
      cases i3 with
      | bl b => exact ⟨b, rfl, P2 G3 H3 A2 ((s1.trans s2).trans s3) (I2.up s3 k3) R3⟩
      | _ => exact P2.elim
    | _ => exact P2.elim
theorem ST.wp (h : SW X W e d') : ST X W e d' := fun F ps σ G H A Q env I R P => PT.go pw_run.pt (h F ps σ G H A Q env I R P)
end
end Dn

namespace Dn
open PySem PySem.Spec PyProof.Rows L2
/-! ### a value as it is seen: data, or a tree of our own -/
/-- ..: what an operation may know of its operand -/
structure Vw (K : PySem.W.Frag) (G H : Hp) (v : V) (x : D) : Prop where
  none : x = .none → v = .non
  bool : ∀ b, x = .bool b → v = .bl b
  int : ∀ i, x = .int i → v = .int i
  str : ∀ z, x = .str z → v = .str z
  list : ∀ ds, x = .list ds → ∃ a xs, v = .ref a ∧ H a = some (.lst xs) ∧ IsL K G xs ds
  tup : ∀ ds, x = .tup ds → ∃ a xs, v = .ref a ∧ H a = some (.tup xs) ∧ IsL K G xs ds
  dict : ∀ ks ds, x = .dict ks ds → ∃ a kv, v = .ref a ∧ Rd H a (.dK kv) ∧ kv.map (·.1) = ks ∧ IsL K G (kv.map (·.2)) ds
  dictT : ∀ ks ds, x = .dictT ks ds → ∃ a kv, v = .ref a ∧ Rd H a (.dT kv) ∧ kv.map (·.1) = ks ∧ IsL K G (kv.map (·.2)) ds
  inst : ∀ C ns ds, x = .inst C ns ds → ∃ a dx fs, v = .ref a ∧ H a = some (.ins (He.ga K C) dx fs) ∧ fs.map (·.1) = ns
  scr : ∀ ns, x = .scr ns → ∃ a, v = .ref a ∧ SqL K H a (ns.map V.int)
  val : ∀ u, x = .val u → v = u
section
variable {K : PySem.W.Frag} {G H : Hp} {v : V} {x : D}
theorem Is.vw (s : Same G H) (h : Is K G v x) : Vw K G H v x where
  none := fun e => by subst e; exact h.noneE
  bool := fun _ e => by subst e; exact h.boolE
  int := fun _ e => by subst e; exact h.intE
  str := fun _ e => by subst e; exact h.strE
  list := fun _ e => by
    subst e
    obtain ⟨a, xs, e, ha, r⟩ := h.listE
    exact ⟨a, xs, e, s _ _ ha, r⟩
  tup := fun _ e => by
    subst e
    obtain ⟨a, xs, e, ha, r⟩ := h.tupE
    exact ⟨a, xs, e, s _ _ ha, r⟩
  dict := fun _ _ e => by
    subst e
    obtain ⟨a, od, kv, e, ha, hk, r⟩ := h.dictE
    exact ⟨a, kv, e, .inr ⟨od, s _ _ ha⟩, hk, r⟩
  dictT := fun _ _ e => by
    subst e
    obtain ⟨a, od, kv, e, ha, hk, r⟩ := h.dictTE
    exact ⟨a, kv, e, .inr ⟨od, s _ _ ha⟩, hk, r⟩
  inst := fun _ _ _ e => by
    subst e
    obtain ⟨a, dx, fs, e, ha, hn, r⟩ := h.instE
    exact ⟨a, dx, fs, e, s _ _ ha, hn⟩
  scr := fun _ e => by
    subst e
    cases h with
    | scr ns h => exact ⟨_, rfl, s.seq h⟩
  val := fun _ e => by subst e; exact h.valE
theorem TIs.vw {t : T} {B : List Addr} (s : Same G H) (h : TIs K G H v t B) : Vw K G H v t.frz := by
  cases h with
  | d h => exact h.vw s
  | lst h r => constructor <;> intros <;> rename_i e <;> cases e <;> first | exact ⟨_, _, rfl, h, r⟩
  | dict h hk r => constructor <;> intros <;> rename_i e <;> cases e <;> first | exact ⟨_, _, rfl, .inl h, hk, r⟩
  | dictT h hk r => constructor <;> intros <;> rename_i e <;> cases e <;> first | exact ⟨_, _, rfl, .inl h, hk, r⟩
  | inst h hn r => constructor <;> intros <;> rename_i e <;> cases e <;> first | exact ⟨_, _, _, rfl, h, hn⟩
end
/-- e's value is seen -/
def SV (X : Cx) (W : WX) (e : Expr) (d : Ev → Rs D) : Prop :=
  ∀ F ps σ G H A Q env, EvIs X.K G H ps σ env A → Rel F G H A → (d env).post (fun x env' => ∀ v G' H' A', Same G G' → EvIs X.K G' H' ps σ env' A' → Vw X.K G' H' v x → Rel F G' H' A' → Q v H') (exP X W F ps G) → RunE X e σ H Q
def frzD (d : DE) : Ev → Rs D := fun env => (d env).bindD fun x env => .ok x env
def pk (i : Nat) : Ev → Rs D := fun env => match treeS (getS env i) with
  | some t => .ok t.frz env
  | none => .stuck
section
variable {X : Cx} {W : WX} {F : Fm} {ps : List V} {σ : L2.St} {G H : Hp} {A : List Addr} {env : Ev} {β : Type} {ok : β → Ev → Prop} {e e2 e3 : Expr} {es : List Expr} {d d2 d3 : DE} {b1 b2 : Ev → Rs Bool} {K1 : VK} {x : Str} {pos : Pos} {i : Nat}
theorem SV.seq {d : Ev → Rs D} (h : SV X W e d) {f : D → Ev → Rs β} (I : EvIs X.K G H ps σ env A) (R : Rel F G H A) (P : ((d env).bind f).post ok (exP X W F ps G))
    (k : ∀ x env' v G' H' A', Same G G' → EvIs X.K G' H' ps σ env' A' → Vw X.K G' H' v x → Rel F G' H' A' → (f x env').post ok (exP X W F ps G') → K1 v H') : RunE X e σ H K1 := by
  refine h F ps σ G H A K1 env I R ?_
  cases q : d env with
  | ok t env' =>
    rw [q] at P
    exact fun v G' H' A' s I' i R' => k t env' v G' H' A' s I' i R' (post_up s P)
  | exc c fs env' => rw [q] at P; exact P
  | stuck => rw [q] at P; exact P
theorem SE.v (h : SE X W e d) : SV X W e (frzD d) := fun F ps σ G H A Q env I R P =>
  h.seqD I R P fun x env1 v G1 H1 A1 s1 I1 i1 R1 P1 => P1 v G1 H1 A1 s1 I1 (i1.vw R1.gh) R1
theorem SV.pk (hN : X.N[i]? = some x) (hv : visB X.env.scope x = true) (hd : (x == ("__debug__" : Str)) = false) (hcd : (x == ("__classdict__" : Str)) = false) : SV X W (.Name x pos) (pk i) := fun F ps σ G H A Q env I R P => by
  unfold Dn.pk at P
  cases q : treeS (getS env i) with
  | none => rw [q] at P; exact P.elim
  | some t =>
    rw [q] at P
    obtain ⟨v, B, C, h1, h2, h3, h4⟩ := I.tree q
    exact PE.go (pe_var hN (vis_of hv) hd hcd) ⟨v, h1, P v G H A (Same.refl G) I (h2.vw R.gh) R⟩
/-! ### operators of two -/
def OpV (X : Cx) (f : Value → Value → Sem Value) (o : D → D → Option T) : Prop := ∀ (F : Fm) (A : List Addr) (G H : Hp) (x y : V) (a b : D) (t : T) (Q : VK), Rel F G H A → Vw X.K G H x a → Vw X.K G H y b → o a b = some t → OkO X F G H A Q t → RunO X f x y H Q
def dBn (o : D → D → Option T) (d1 : DE) (d2 : Ev → Rs D) : DE := fun env => (d1 env).bindD fun x env => (d2 env).bind fun y env => ofO (o x y) env
/-- the first a name -/
def dBp (o : D → D → Option T) (i : Nat) (d2 : Ev → Rs D) : DE := fun env => (pk i env).bind fun _ env => (d2 env).bind fun y env => (pk i env).bind fun x env => ofO (o x y) env
theorem bn_run {op : Value → Value → Sem Value} {o : D → D → Option T} {d2 : Ev → Rs D} (ho : OpV X op o) (h1 : SE X W e d) (h2 : SV X W e2 d2) {f : T → Ev → Rs β} (I : EvIs X.K G H ps σ env A) (R : Rel F G H A)
    (P : ((dBn o d d2 env).bind f).post ok (exP X W F ps G)) {Q : VK} (k : ∀ t env' v G' H' A' B, Same G G' → EvIs X.K G' H' ps σ env' A' → TIs X.K G' H' v t B → Rel F G' H' (B ++ A') → (f t env').post ok (exP X W F ps G') → Q v H') :
    RunE X e σ H fun x H1 => RunE X e2 σ H1 fun y H2 => RunO X op x y H2 Q := by
  have P1 : (((d env).bindD fun x env => ((d2 env).bind fun y env => ofO (o x y) env).bind f)).post ok (exP X W F ps G) := by
    unfold dBn at P
    cases q : d env <;> rw [q] at P <;> exact P
  refine h1.seqD I R P1 fun x env1 v G1 H1 A1 s1 I1 i1 R1 P1 => ?_
  have P2 : ((d2 env1).bind fun y env => (ofO (o x y) env).bind f).post ok (exP X W F ps G1) := by
    cases q : d2 env1 <;> rw [q] at P1 <;> exact P1
  refine h2.seq I1 R1 P2 fun y env2 u G2 H2 A2 s2 I2 i2 R2 P3 => ?_
  cases q : o x y with
  | none => rw [q] at P3; exact P3.elim
  | some t =>
    rw [q] at P3
    exact ho F A2 G2 H2 v u x y t Q R2 ((i1.up s2).vw R2.gh) i2 q fun v' G3 H3 B s3 k3 i3 R3 => k t env2 v' G3 H3 A2 B ((s1.trans s2).trans s3) (I2.up s3 k3) i3 R3 (post_up s3 P3)
theorem bp_run {op : Value → Value → Sem Value} {o : D → D → Option T} {d2 : Ev → Rs D} (ho : OpV X op o) (hN : X.N[i]? = some x) (hv : visB X.env.scope x = true) (hd : (x == ("__debug__" : Str)) = false) (hcd : (x == ("__classdict__" : Str)) = false) (h2 : SV X W e2 d2) {f : T → Ev → Rs β} (I : EvIs X.K G H ps σ env A) (R : Rel F G H A)
    (P : ((dBp o i d2 env).bind f).post ok (exP X W F ps G)) {Q : VK} (k : ∀ t env' v G' H' A' B, Same G G' → EvIs X.K G' H' ps σ env' A' → TIs X.K G' H' v t B → Rel F G' H' (B ++ A') → (f t env').post ok (exP X W F ps G') → Q v H') :
    RunE X (.Name x pos) σ H fun x H1 => RunE X e2 σ H1 fun y H2 => RunO X op x y H2 Q := by
  unfold dBp at P
  cases q0 : treeS (getS env i) with
  | none =>
    have : Dn.pk i env = .stuck := by unfold Dn.pk; rw [q0]
    rw [this] at P; exact P.elim
  | some t0 =>
    have e0 : Dn.pk i env = .ok t0.frz env := by unfold Dn.pk; rw [q0]
    rw [e0] at P
    obtain ⟨v, B, C, hv1, _, _, _⟩ := I.tree q0
    refine PE.go (pe_var hN (vis_of hv) hd hcd) ⟨v, hv1, ?_⟩
    have P2 : ((d2 env).bind fun y env => ((Dn.pk i env).bind fun x env => ofO (o x y) env).bind f).post ok (exP X W F ps G) := by
      have P : (((d2 env).bind fun y env => (Dn.pk i env).bind fun x env => ofO (o x y) env).bind f).post ok (exP X W F ps G) := P
      cases q : d2 env <;> rw [q] at P <;> exact P
    refine h2.seq I R P2 fun y env2 u G2 H2 A2 s2 I2 i2 R2 P3 => ?_
    cases q1 : treeS (getS env2 i) with
    | none =>
      have : Dn.pk i env2 = .stuck := by unfold Dn.pk; rw [q1]
      rw [this] at P3; exact P3.elim
    | some t1 =>
      have e1 : Dn.pk i env2 = .ok t1.frz env2 := by unfold Dn.pk; rw [q1]
      rw [e1] at P3
      obtain ⟨v1, B1, C1, hv2, ht1, _, _⟩ := I2.tree q1
      rw [hv1] at hv2
      cases hv2
      have P3 : ((ofO (o t1.frz y) env2).bind f).post ok (exP X W F ps G2) := P3
      cases q : o t1.frz y with
      | none => rw [q] at P3; exact P3.elim
      | some t =>
        rw [q] at P3
        exact ho F A2 G2 H2 v u t1.frz y t Q R2 (ht1.vw R2.gh) i2 q fun v' G3 H3 B s3 k3 i3 R3 => k t env2 v' G3 H3 A2 B (s2.trans s3) (I2.up s3 k3) i3 R3 (post_up s3 P3)
theorem bind_ok {r : Rs T} : r.bind (fun t env => .ok t env) = r := by cases r <;> rfl
theorem SE.bn {op : Operator} {o : D → D → Option T} {d2 : Ev → Rs D} (ho : OpV X (binaryOp op) o) (h1 : SE X W e d) (h2 : SV X W e2 d2) : SE X W (.BinOp e op e2 pos) (dBn o d d2) := fun F ps σ G H A Q env I R P =>
  PE.go (pe_op opr_run pe_run pe_run) (bn_run (f := fun t env => .ok t env) (ok := okE X F ps σ G Q) ho h1 h2 I R (by rw [bind_ok]; exact P) fun t env' v G' H' A' B s I' i R' P' => (show okE X F ps σ G Q t env' from P') v G' H' A' B s I' i R')
theorem SE.bp {op : Operator} {o : D → D → Option T} {d2 : Ev → Rs D} {p2 : Pos} (ho : OpV X (binaryOp op) o) (hN : X.N[i]? = some x) (hv : visB X.env.scope x = true) (hd : (x == ("__debug__" : Str)) = false) (hcd : (x == ("__classdict__" : Str)) = false) (h2 : SV X W e2 d2) : SE X W (.BinOp (.Name x p2) op e2 pos) (dBp o i d2) := fun F ps σ G H A Q env I R P =>
  PE.go (pe_op opr_run pe_run pe_run) (bp_run (f := fun t env => .ok t env) (ok := okE X F ps σ G Q) ho hN hv hd hcd h2 I R (by rw [bind_ok]; exact P) fun t env' v G' H' A' B s I' i R' P' => (show okE X F ps σ G Q t env' from P') v G' H' A' B s I' i R')
theorem SE.cmpn {op : CmpOp} {o : D → D → Option T} {d2 : Ev → Rs D} (ho : OpV X (compareOp op) o) (hm : behindInMarks op e2 = false) (h1 : SE X W e d) (h2 : SV X W e2 d2) : SE X W (.Compare e [op] [e2] pos) (dBn o d d2) := fun F ps σ G H A Q env I R P =>
  PE.go (pe_cmpR opr_run pe_run pe_run hm) (bn_run (f := fun t env => .ok t env) (ok := okE X F ps σ G Q) ho h1 h2 I R (by rw [bind_ok]; exact P) fun t env' v G' H' A' B s I' i R' P' => (show okE X F ps σ G Q t env' from P') v G' H' A' B s I' i R')
theorem SE.cmpp {op : CmpOp} {o : D → D → Option T} {d2 : Ev → Rs D} {p2 : Pos} (ho : OpV X (compareOp op) o) (hm : behindInMarks op e2 = false) (hN : X.N[i]? = some x) (hv : visB X.env.scope x = true) (hd : (x == ("__debug__" : Str)) = false) (hcd : (x == ("__classdict__" : Str)) = false) (h2 : SV X W e2 d2) : SE X W (.Compare (.Name x p2) [op] [e2] pos) (dBp o i d2) := fun F ps σ G H A Q env I R P =>
  PE.go (pe_cmpR opr_run pe_run pe_run hm) (bp_run (f := fun t env => .ok t env) (ok := okE X F ps σ G Q) ho hN hv hd hcd h2 I R (by rw [bind_ok]; exact P) fun t env' v G' H' A' B s I' i R' P' => (show okE X F ps σ G Q t env' from P') v G' H' A' B s I' i R')
/-- a tree as a test's answer -/
def tB (t : T) (env : Ev) : Rs Bool := match t with
  | .d (.bool b) => .ok b env
  | _ => .stuck
def aB (d : DE) : Ev → Rs Bool := fun env => (d env).bind tB
theorem tB_run {Q : Bool → Hp → Prop} {t : T} {env' : Ev} {v : V} {G' H' : Hp} {A' B : List Addr} (s : Same G G') (I' : EvIs X.K G' H' ps σ env' A') (i : TIs X.K G' H' v t B) (R' : Rel F G' H' (B ++ A')) (P : (tB t env').post (okT X F ps σ G Q) (exP X W F ps G')) : ∃ k, v = .bl k ∧ Q k H' := by
  cases i with
  | d i =>
    cases i with
    | bl b => exact ⟨b, rfl, P G' H' A' s I' R'⟩
    | _ => exact P.elim
  | _ => exact P.elim
theorem ST.v (he : ∀ whole, isTrue e X.env whole = (do let v ← whole; standAt e.pos; holding [v] (truthy v))) (h : SE X W e d) : ST X W e (aB d) := fun F ps σ G H A Q env I R P =>
  PT.go (pt_val pe_run he) (h.seq I R P fun t env1 v G1 H1 A1 B s1 I1 i1 R1 P1 => tB_run s1 I1 i1 R1 P1)
theorem ST.cmpn {op : CmpOp} {o : D → D → Option T} {d2 : Ev → Rs D} (ho : OpV X (compareOp op) o) (hm : behindInMarks op e2 = false) (h1 : SE X W e d) (h2 : SV X W e2 d2) : ST X W (.Compare e [op] [e2] pos) (aB (dBn o d d2)) := fun F ps σ G H A Q env I R P =>
  PT.go (pt_cmpR opr_run pe_run pe_run hm) (bn_run ho h1 h2 I R P fun t env' v G' H' A' B s I' i R' P' => tB_run s I' i R' P')
theorem ST.cmpp {op : CmpOp} {o : D → D → Option T} {d2 : Ev → Rs D} {p2 : Pos} (ho : OpV X (compareOp op) o) (hm : behindInMarks op e2 = false) (hN : X.N[i]? = some x) (hv : visB X.env.scope x = true) (hd : (x == ("__debug__" : Str)) = false) (hcd : (x == ("__classdict__" : Str)) = false) (h2 : SV X W e2 d2) : ST X W (.Compare (.Name x p2) [op] [e2] pos) (aB (dBp o i d2)) := fun F ps σ G H A Q env I R P =>
  PT.go (pt_cmpR opr_run pe_run pe_run hm) (bp_run ho hN hv hd hcd h2 I R P fun t env' v G' H' A' B s I' i R' P' => tB_run s I' i R' P')
/-! ### and, or, not, if -/
def dAnd (b1 b2 : Ev → Rs Bool) : Ev → Rs Bool := fun env => (b1 env).bind fun b env => if b = true then b2 env else .ok false env
def dOr (b1 b2 : Ev → Rs Bool) : Ev → Rs Bool := fun env => (b1 env).bind fun b env => if b = true then .ok true env else b2 env
def dNot (b1 : Ev → Rs Bool) : Ev → Rs Bool := fun env => (b1 env).bind fun b env => .ok (!b) env
theorem SW.and (h1 : ST X W e b1) (h2 : SW X W (.BoolOp .And (e2 :: es) pos) b2) : SW X W (.BoolOp .And (e :: e2 :: es) pos) (dAnd b1 b2) := fun F ps σ G H A Q env I R P =>
  PW.go (pw_and pt_run pw_run) (h1.seq I R P fun b env1 G1 H1 A1 s1 I1 R1 P1 => by
    cases b with
    | true => exact h2 F ps σ G1 H1 A1 Q env1 I1 R1 (Rs.post.imp P1 (fun _ _ _ h => okT.up s1 h) fun _ _ _ _ h => h)
    | false => exact P1 G1 H1 A1 s1 I1 R1)
theorem SW.or (h1 : ST X W e b1) (h2 : SW X W (.BoolOp .Or (e2 :: es) pos) b2) : SW X W (.BoolOp .Or (e :: e2 :: es) pos) (dOr b1 b2) := fun F ps σ G H A Q env I R P =>
  PW.go (pw_or pt_run pw_run) (h1.seq I R P fun b env1 G1 H1 A1 s1 I1 R1 P1 => by
    cases b with
    | false => exact h2 F ps σ G1 H1 A1 Q env1 I1 R1 (Rs.post.imp P1 (fun _ _ _ h => okT.up s1 h) fun _ _ _ _ h => h)
    | true => exact P1 G1 H1 A1 s1 I1 R1)
theorem SW.and1 (h1 : ST X W e b1) : SW X W (.BoolOp .And [e] pos) b1 := fun F ps σ G H A Q env I R P => PW.go (pw_and1 pt_run) (h1 F ps σ G H A Q env I R P)
theorem SW.or1 (h1 : ST X W e b1) : SW X W (.BoolOp .Or [e] pos) b1 := fun F ps σ G H A Q env I R P => PW.go (pw_or1 pt_run) (h1 F ps σ G H A Q env I R P)
theorem ST.not (h1 : ST X W e b1) : ST X W (.UnaryOp .Not e pos) (dNot b1) := fun F ps σ G H A Q env I R P =>
  PT.go (pt_not pt_run) (h1.seq I R P fun b env1 G1 H1 A1 s1 I1 R1 P1 => P1 G1 H1 A1 s1 I1 R1)
/-- .. as values, all but the last bools -/
def dAndV (d1 d2 : DE) : DE := fun env => (d1 env).bind fun t env => (tB t env).bind fun b env => if b = true then d2 env else .ok (.d (.bool false)) env
def dOrV (d1 d2 : DE) : DE := fun env => (d1 env).bind fun t env => (tB t env).bind fun b env => if b = true then .ok (.d (.bool true)) env else d2 env
theorem SE.and (h1 : SE X W e d) (h2 : SE X W (.BoolOp .And (e2 :: es) pos) d2) : SE X W (.BoolOp .And (e :: e2 :: es) pos) (dAndV d d2) := fun F ps σ G H A Q env I R P =>
  PE.go (pe_and pe_run pe_run) (h1.seq I R P fun t env1 v G1 H1 A1 B s1 I1 i1 R1 P1 => by
    cases i1 with
    | d i1 =>
      cases i1 with
      | bl b =>
        refine ⟨b, rfl, ?_⟩
        cases b with
        | true => exact h2 F ps σ G1 H1 A1 Q env1 I1 R1 (Rs.post.imp P1 (fun _ _ _ h => okE.up s1 h) fun _ _ _ _ h => h)
        | false => exact P1 _ G1 H1 A1 [] s1 I1 (.d (.bl _)) R1
      | _ => exact P1.elim
    | _ => exact P1.elim)
theorem SE.or (h1 : SE X W e d) (h2 : SE X W (.BoolOp .Or (e2 :: es) pos) d2) : SE X W (.BoolOp .Or (e :: e2 :: es) pos) (dOrV d d2) := fun F ps σ G H A Q env I R P =>
  PE.go (pe_or pe_run pe_run) (h1.seq I R P fun t env1 v G1 H1 A1 B s1 I1 i1 R1 P1 => by
    cases i1 with
    | d i1 =>
      cases i1 with
      | bl b =>
        refine ⟨b, rfl, ?_⟩
        cases b with
        | false => exact h2 F ps σ G1 H1 A1 Q env1 I1 R1 (Rs.post.imp P1 (fun _ _ _ h => okE.up s1 h) fun _ _ _ _ h => h)
        | true => exact P1 _ G1 H1 A1 [] s1 I1 (.d (.bl _)) R1
      | _ => exact P1.elim
    | _ => exact P1.elim)
theorem SE.one {op : BoolOp} (h : SE X W e d) : SE X W (.BoolOp op [e] pos) d := fun F ps σ G H A Q env I R P => PE.go (pe_one pe_run) (h F ps σ G H A Q env I R P)
def dNotV (d1 : DE) : DE := fun env => (d1 env).bind fun t env => (tB t env).bind fun b env => .ok (.d (.bool (!b))) env
theorem SE.not (h : SE X W e d) : SE X W (.UnaryOp .Not e pos) (dNotV d) := fun F ps σ G H A Q env I R P =>
  PE.go (pe_not pe_run) (h.seq I R P fun t env1 v G1 H1 A1 B s1 I1 i1 R1 P1 => by
    cases i1 with
    | d i1 =>
      cases i1 with
      | bl b => exact ⟨b, rfl, P1 _ G1 H1 A1 [] s1 I1 (.d (.bl _)) R1⟩
      | _ => exact P1.elim
    | _ => exact P1.elim)
def dIf (b : Ev → Rs Bool) (d1 d2 : DE) : DE := fun env => (b env).bind fun b env => if b = true then d1 env else d2 env
theorem SE.ife (hc : ST X W e b1) (h1 : SE X W e2 d2) (h0 : SE X W e3 d3) : SE X W (.IfExp e e2 e3 pos) (dIf b1 d2 d3) := fun F ps σ G H A Q env I R P =>
  PE.go (pe_ifExp pt_run pe_run pe_run) (hc.seq I R P fun b env1 G1 H1 A1 s1 I1 R1 P1 => by
    cases b with
    | true => exact h1 F ps σ G1 H1 A1 Q env1 I1 R1 (Rs.post.imp P1 (fun _ _ _ h => okE.up s1 h) fun _ _ _ _ h => h)
    | false => exact h0 F ps σ G1 H1 A1 Q env1 I1 R1 (Rs.post.imp P1 (fun _ _ _ h => okE.up s1 h) fun _ _ _ _ h => h))
/-! ### one operand -/
def dUn (o : D → Option T) (d1 : Ev → Rs D) : DE := fun env => (d1 env).bind fun x env => ofO (o x) env
theorem SE.un {op : UnaryOp} {o : D → Option T} {d1 : Ev → Rs D} (ho : ∀ (F : Fm) (A : List Addr) (G H : Hp) (x : V) (a : D) (t : T) (Q : VK), Rel F G H A → Vw X.K G H x a → o a = some t → OkO X F G H A Q t → RunU X (unaryOp op) x H Q) (h : SV X W e d1) : SE X W (.UnaryOp op e pos) (dUn o d1) := fun F ps σ G H A Q env I R P =>
  PE.go (pe_un ur_run pe_run) (h.seq I R P fun x env1 v G1 H1 A1 s1 I1 i1 R1 P1 => by
    cases q : o x with
    | none => rw [q] at P1; exact P1.elim
    | some t => rw [q] at P1; exact ho F A1 G1 H1 v x t Q R1 i1 q (okO_of I1 R1 s1 P1))
/-! ### truth -/
def truD : D → Option Bool
  | .none => some false
  | .bool b => some b
  | .int i => some (i != 0)
  | .str y => if y.length ≤ sizeLine then some ((y.length : Int) != 0) else none
  | .list ds => some !ds.isEmpty
  | .tup ds => some !ds.isEmpty
  | _ => none
def ofB (o : Option Bool) (env : Ev) : Rs Bool := match o with
  | some t => .ok t env
  | none => .stuck
def dTru (d1 : Ev → Rs D) : Ev → Rs Bool := fun env => (d1 env).bind fun x env => ofB (truD x) env
theorem isE_len {α β : Type} {xs : List α} {ys : List β} (h : xs.length = ys.length) : xs.isEmpty = ys.isEmpty := by
  cases xs <;> cases ys <;> first | rfl | (simp at h)
theorem tru_vw {K : PySem.W.Frag} {v : V} {x : D} {b : Bool} (h : Vw K G H v x) (e : truD x = some b) : TruV K v H b := by
  cases x with
  | none => rw [h.none rfl]; exact (Option.some.inj e).symm
  | bool => rw [h.bool _ rfl]; exact (Option.some.inj e).symm
  | int => rw [h.int _ rfl]; exact (Option.some.inj e).symm
  | str y =>
    rw [h.str _ rfl]
    have e : (if y.length ≤ sizeLine then some ((y.length : Int) != 0) else none) = some b := e
    by_cases hz : y.length ≤ sizeLine
    · rw [if_pos hz] at e; exact ⟨hz, (Option.some.inj e).symm⟩
    · rw [if_neg hz] at e; cases e
  | list ds =>
    obtain ⟨a, xs, rfl, ha, r⟩ := h.list _ rfl
    exact .inl ⟨xs, SqL.of ha, by rw [isE_len r.length]; exact (Option.some.inj e).symm⟩
  | tup ds =>
    obtain ⟨a, xs, rfl, ha, r⟩ := h.tup _ rfl
    exact .inr (.inl ⟨xs, SqT.of ha, by rw [isE_len r.length]; exact (Option.some.inj e).symm⟩)
  | _ => cases e
theorem ST.tru {d1 : Ev → Rs D} (he : ∀ whole, isTrue e X.env whole = (do let v ← whole; standAt e.pos; holding [v] (truthy v))) (h : SV X W e d1) : ST X W e (dTru d1) := fun F ps σ G H A Q env I R P =>
  PT.go (pt_truth pe_run he) (h.seq I R P fun x env1 v G1 H1 A1 s1 I1 i1 R1 P1 => by
    cases q : truD x with
    | none => rw [q] at P1; exact P1.elim
    | some b => rw [q] at P1; exact ⟨b, tru_vw i1 q, P1 G1 H1 A1 s1 I1 R1⟩)
/-! ### argument lists, displays -/
def dNil : Ev → Rs (List D) := fun env => .ok [] env
def dCons (d1 : DE) (ds : Ev → Rs (List D)) : Ev → Rs (List D) := fun env => (d1 env).bindD fun x env => (ds env).bind fun xs env => .ok (x :: xs) env
theorem SA.nil : SA X W [] dNil := fun F ps σ G H A Q env I R P => PA.go pa_nil (P [] G H A (Same.refl G) I .nil R)
theorem SA.cons {ds : Ev → Rs (List D)} (hs : starEach (e :: es) X.env = (false, eval e X.env) :: starEach es X.env) (h : SE X W e d) (t : SA X W es ds) : SA X W (e :: es) (dCons d ds) := fun F ps σ G H A Q env I R P =>
  PA.go (pa_cons pe_run pa_run hs) (h.seqD I R P fun x env1 v G1 H1 A1 s1 I1 i1 R1 P1 => t.seq I1 R1 P1 fun xs env2 vs G2 H2 A2 s2 I2 i2 R2 P2 => P2 (v :: vs) G2 H2 A2 (s1.trans s2) I2 (.cons (i1.up s2) i2) R2)
def dTup (ds : Ev → Rs (List D)) : DE := fun env => (ds env).bind fun xs env => if xs.length ≤ sizeLine then .ok (.d (.tup xs)) env else .stuck
def dLst (ds : Ev → Rs (List D)) : DE := fun env => (ds env).bind fun xs env => if xs.length ≤ sizeLine then .ok (.lst xs) env else .stuck
theorem SE.tup {ds : Ev → Rs (List D)} {k1} (h : SA X W es ds) : SE X W (.Tuple es k1 pos) (dTup ds) := fun F ps σ G H A Q env I R P =>
  PE.go (pe_tup pa_run) (h.seq I R P fun xs env1 vs G1 H1 A1 s1 I1 i1 R1 P1 => by
    by_cases hz : xs.length ≤ sizeLine
    · rw [if_pos hz] at P1
      exact ⟨by rw [i1.length]; exact hz, fun p hp => (okO_of I1 R1 s1 P1).tup i1 R1 hp⟩
    · rw [if_neg hz] at P1; exact P1.elim)
theorem SE.lst {ds : Ev → Rs (List D)} (h : SA X W es ds) : SE X W (.List es pos) (dLst ds) := fun F ps σ G H A Q env I R P =>
  PE.go (pe_lst pa_run) (h.seq I R P fun xs env1 vs G1 H1 A1 s1 I1 i1 R1 P1 => by
    by_cases hz : xs.length ≤ sizeLine
    · rw [if_pos hz] at P1
      exact ⟨by rw [i1.length]; exact hz, fun p hp => (okO_of I1 R1 s1 P1).lst i1 R1 hp⟩
    · rw [if_neg hz] at P1; exact P1.elim)
/-! ### a part -/
def lookK {κ : Type} [DecidableEq κ] : List κ → List D → κ → Option D
  | k :: ks, d :: ds, j => if k = j then some d else lookK ks ds j
  | _, _, _ => none
theorem lookK_val {κ : Type} [DecidableEq κ] {K : PySem.W.Frag} {j : κ} {d : D} : ∀ {kv : List (κ × V)} {ds : List D}, IsL K G (kv.map (·.2)) ds → lookK (kv.map (·.1)) ds j = some d → ∃ v, valV kv j = some v ∧ Is K G v d
  | [], ds, h, e => by cases e
  | p :: kv, [], h, e => by cases e
  | p :: kv, d0 :: ds, h, e => by
    cases h with
    | cons h t =>
      unfold lookK at e
      rw [List.map_cons] at e
      dsimp only at e
      by_cases hk : p.1 = j
      · rw [if_pos hk] at e
        cases e
        exact ⟨_, valV_pos hk, h⟩
      · rw [if_neg hk] at e
        obtain ⟨v, ev, iv⟩ := lookK_val t e
        exact ⟨v, by rw [valV_neg hk]; exact ev, iv⟩
theorem lookK_isSome {κ : Type} [DecidableEq κ] {K : PySem.W.Frag} {j : κ} : ∀ {kv : List (κ × V)} {ds : List D}, IsL K G (kv.map (·.2)) ds → (valV kv j).isSome = (lookK (kv.map (·.1)) ds j).isSome
  | [], ds, h => by cases h; rfl
  | p :: kv, ds, h => by
    cases h with
    | cons h t =>
      unfold lookK
      rw [List.map_cons]
      dsimp only
      by_cases hk : p.1 = j
      · rw [valV_pos hk, if_pos hk]; rfl
      · rw [valV_neg hk, if_neg hk]; exact lookK_isSome t
def keyD : D → Option Key
  | .int i => some (.inl i)
  | .str x => some (.inr x)
  | _ => none
theorem keyD_vw {K : PySem.W.Frag} {v : V} {x : D} {k : Key} (h : Vw K G H v x) (e : keyD x = some k) : v = kV k := by
  cases x with
  | int i => cases e; exact h.int _ rfl
  | str z => cases e; exact h.str _ rfl
  | _ => cases e
def keysD : List D → Option (List Key)
  | [] => some []
  | d :: ds => match keyD d, keysD ds with
    | some k, some ks => some (k :: ks)
    | _, _ => none
theorem keysD_is {K : PySem.W.Frag} : ∀ {ds : List D} {vs : List V} {ks : List Key}, IsL K G vs ds → keysD ds = some ks → vs = ks.map kV
  | [], _, _, h, e => by cases h; cases e; rfl
  | d :: ds, _, ks, h, e => by
    cases h with
    | cons h t =>
      unfold keysD at e
      cases q : keyD d with
      | none => rw [q] at e; cases e
      | some k =>
        cases q2 : keysD ds with
        | none => rw [q, q2] at e; cases e
        | some ks' =>
          rw [q, q2] at e
          cases e
          rw [List.map_cons, ← keysD_is t q2, keyD_vw (h.vw (Same.refl G)) q]
/-- a tuple as a key -/
def tkeyD : D → Option (List Key)
  | .tup ds => keysD ds
  | _ => none
def ixD : D → D → Option D
  | .list ds, .int i => atI ds i
  | .tup ds, .int i => atI ds i
  | .scr ns, .int i => (atI ns i).map .int
  | .str z, .int i => if z.length ≤ sizeLine then (atI z.cps.toList i).map fun c => .str ⟨#[c]⟩ else none
  | .dict ks ds, y => (keyD y).bind fun k => lookK ks ds k
  | .dictT ks ds, y => (tkeyD y).bind fun k => lookK ks ds k
  | _, _ => none
theorem atI_is {K : PySem.W.Frag} {xs : List V} {ds : List D} {i : Int} {d : D} (r : IsL K G xs ds) (e : atI ds i = some d) : ∃ v, atI xs i = some v ∧ Is K G v d := by
  obtain ⟨j, e1, e2⟩ := Option.bind_eq_some_iff.mp (show (ixN ds.length i).bind _ = some d from e)
  obtain ⟨v, ev, p⟩ := r.at e2
  refine ⟨v, ?_, p⟩
  show (ixN xs.length i).bind _ = some v
  rw [r.length, e1]; exact ev
theorem ix_dict {a : Addr} {y z : V} {Q : VK} (hu : X.A.units + 64 < cLine) (g : DGet H a y (some z)) (q : Q z H) : RunI X (.ref a) y H Q := by
  intro value slice pins s σ v u I rx ry hs
  cases rx
  exact PyProof.Rows.tail_any (dict_typeIs I g) PySem.F.slot_dict_getitem.lookup (d_getItem (by omega) I g ry fun w' s3 I3 rw' => ⟨z, H, I3, rw', q⟩) hs
theorem ixD_run {v u : V} {x y r : D} {Q : VK} {F : Fm} {A : List Addr} (hu : X.A.units + 64 < cLine) (R : Rel F G H A) (h1 : Vw X.K G H v x) (h2 : Vw X.K G H u y) (e : ixD x y = some r) (k : ∀ z, Is X.K G z r → Q z H) : RunI X v u H Q := by
  cases x with
  | list ds =>
    cases y with
    | int i =>
      obtain ⟨a, xs, rfl, ha, rr⟩ := h1.list _ rfl
      obtain ⟨z, ez, iz⟩ := atI_is rr e
      exact IxR.go ix_seq (.inl ⟨a, xs, i, z, rfl, h2.int _ rfl, SqL.of ha, ez, k z iz⟩)
    | _ => cases e
  | tup ds =>
    cases y with
    | int i =>
      obtain ⟨a, xs, rfl, ha, rr⟩ := h1.tup _ rfl
      obtain ⟨z, ez, iz⟩ := atI_is rr e
      exact IxR.go ix_seq (.inr (.inl ⟨a, xs, i, z, rfl, h2.int _ rfl, SqT.of ha, ez, k z iz⟩))
    | _ => cases e
  | scr ns =>
    cases y with
    | int i =>
      obtain ⟨a, rfl, ha⟩ := h1.scr _ rfl
      obtain ⟨n, e1, e2⟩ := Option.map_eq_some_iff.mp (show (atI ns i).map D.int = some r from e)
      subst e2
      obtain ⟨z, ez, iz⟩ := atI_is (K := X.K) (G := G) (i := i) (ds := ns.map D.int) (IsL.of_ints ns) (d := .int n) (by
        obtain ⟨j, e3, e4⟩ := Option.bind_eq_some_iff.mp (show (ixN ns.length i).bind _ = some n from e1)
        show (ixN (ns.map D.int).length i).bind _ = _
        rw [List.length_map, e3]
        show (ns.map D.int)[j]? = _
        rw [List.getElem?_map, e4]; rfl)
      exact IxR.go ix_seq (.inl ⟨a, _, i, z, rfl, h2.int _ rfl, ha, ez, k z iz⟩)
    | _ => cases e
  | str z =>
    cases y with
    | int i =>
      have e : (if z.length ≤ sizeLine then (atI z.cps.toList i).map fun c => D.str ⟨#[c]⟩ else none) = some r := e
      by_cases hz : z.length ≤ sizeLine
      · rw [if_pos hz] at e
        obtain ⟨c, e1, e2⟩ := Option.map_eq_some_iff.mp e
        subst e2
        exact IxR.go ix_seq (.inr (.inr ⟨z, i, c, h1.str _ rfl, h2.int _ rfl, hz, e1, k _ (.str _)⟩))
      · rw [if_neg hz] at e; cases e
    | _ => cases e
  | dict ks ds =>
    obtain ⟨a, kv, rfl, ha, hk, rr⟩ := h1.dict _ _ rfl
    obtain ⟨kk, e1, e2⟩ := Option.bind_eq_some_iff.mp (show (keyD y).bind _ = some r by cases y <;> exact e)
    subst hk
    obtain ⟨z, ez, iz⟩ := lookK_val rr e2
    exact ix_dict hu (.inl ⟨kv, kk, ha, keyD_vw h2 e1, ez.symm⟩) (k z iz)
  | dictT ks ds =>
    obtain ⟨a, kv, rfl, ha, hk, rr⟩ := h1.dictT _ _ rfl
    obtain ⟨kk, e1, e2⟩ := Option.bind_eq_some_iff.mp (show (tkeyD y).bind _ = some r by cases y <;> exact e)
    subst hk
    obtain ⟨z, ez, iz⟩ := lookK_val rr e2
    cases y with
    | tup es =>
      obtain ⟨b, xs, rfl, hb, rb⟩ := h2.tup _ rfl
      rw [keysD_is rb e1] at hb
      exact ix_dict hu (.inr ⟨kv, kk, b, ha, rfl, hb, ez.symm⟩) (k z iz)
    | _ => cases e1
  | _ => cases e
def ofD (o : Option D) (env : Ev) : Rs T := match o with
  | some x => .ok (.d x) env
  | none => .stuck
def dIx (d1 : DE) (d2 : Ev → Rs D) : DE := fun env => (d1 env).bindD fun x env => (d2 env).bind fun y env => ofD (ixD x y) env
def dIxp (i : Nat) (d2 : Ev → Rs D) : DE := fun env => (pk i env).bind fun _ env => (d2 env).bind fun y env => (pk i env).bind fun x env => ofD (ixD x y) env
theorem SE.ix {d2 : Ev → Rs D} (hu : X.A.units + 64 < cLine) (hs : PlainIx e2) (h1 : SE X W e d) (h2 : SV X W e2 d2) : SE X W (.Subscript e e2 pos) (dIx d d2) := fun F ps σ G H A Q env I R P =>
  PE.go (pe_ix ixr_run pe_run pe_run hs) (h1.seqD I R P fun x env1 v G1 H1 A1 s1 I1 i1 R1 P1 => h2.seq I1 R1 P1 fun y env2 u G2 H2 A2 s2 I2 i2 R2 P2 => by
    cases q : ixD x y with
    | none => rw [q] at P2; exact P2.elim
    | some r => rw [q] at P2; exact ixD_run hu R2 ((i1.up s2).vw R2.gh) i2 q fun z iz => P2 z G2 H2 A2 [] (s1.trans s2) I2 (.d iz) R2)
theorem SE.ixp {d2 : Ev → Rs D} {p2 : Pos} (hu : X.A.units + 64 < cLine) (hs : PlainIx e2) (hN : X.N[i]? = some x) (hv : visB X.env.scope x = true) (hd : (x == ("__debug__" : Str)) = false) (hcd : (x == ("__classdict__" : Str)) = false) (h2 : SV X W e2 d2) : SE X W (.Subscript (.Name x p2) e2 pos) (dIxp i d2) := fun F ps σ G H A Q env I R P => by
  refine PE.go (pe_ix ixr_run pe_run pe_run hs) ?_
  unfold dIxp at P
  cases q0 : treeS (getS env i) with
  | none =>
    have : Dn.pk i env = .stuck := by unfold Dn.pk; rw [q0]
    rw [this] at P; exact P.elim
  | some t0 =>
    have e0 : Dn.pk i env = .ok t0.frz env := by unfold Dn.pk; rw [q0]
    rw [e0] at P
    obtain ⟨v, B, C, hv1, _, _, _⟩ := I.tree q0
    refine PE.go (pe_var hN (vis_of hv) hd hcd) ⟨v, hv1, ?_⟩
    refine h2.seq I R P fun y env2 u G2 H2 A2 s2 I2 i2 R2 P3 => ?_
    cases q1 : treeS (getS env2 i) with
    | none =>
      have : Dn.pk i env2 = .stuck := by unfold Dn.pk; rw [q1]
      rw [this] at P3; exact P3.elim
    | some t1 =>
      have e1 : Dn.pk i env2 = .ok t1.frz env2 := by unfold Dn.pk; rw [q1]
      rw [e1] at P3
      obtain ⟨v1, B1, C1, hv2, ht1, _, _⟩ := I2.tree q1
      rw [hv1] at hv2
      cases hv2
      have P3 : (ofD (ixD t1.frz y) env2).post (okE X F ps σ G Q) (exP X W F ps G2) := P3
      cases q : ixD t1.frz y with
      | none => rw [q] at P3; exact P3.elim
      | some r => rw [q] at P3; exact ixD_run hu R2 (ht1.vw R2.gh) i2 q fun z iz => P3 z G2 H2 A2 [] s2 I2 (.d iz) R2
end
end Dn

namespace PySem
theorem gives_sub_bb (a b : Bool) : Gives (Builtin.«int.__sub__» ⟨[.bool a, .bool b], []⟩) (.int ((if a = true then (1 : Int) else 0) - (if b = true then (1 : Int) else 0))) :=
  .of_wp fun M A E s Q h => by obtain ⟨hp, g, d, tk, os⟩ := s; wp_walk; exact ⟨_, rfl, h⟩
theorem sub_bb {prog : Program} {w : World} {A : Around} {E : Value → Shared → Prop} {s : Shared} {Q : Value → Shared → Prop} {a b : Bool} (h : Q (.int ((if a = true then (1 : Int) else 0) - (if b = true then (1 : Int) else 0)) s.toks) { s with toks := s.toks + 1 }) :
    wpAny (model prog w) A (binaryOp .Sub (.bool a) (.bool b)) Q E s :=
  wpAny_binaryOp_same (op := .Sub) (T := "bool") rfl rfl F.fills_bool_sub F.slot_bool_sub (call_gives F.slot_bool_sub rfl F.entry_int_sub (F.args_int_sub_2 _ _) (gives_sub_bb a b) (Made.post_and trivial h))
end PySem
namespace Dn
open PySem PySem.Spec PyProof.Rows L2
section
variable {X : Cx}
theorem op_sub_bb : OpR X (binaryOp .Sub) (fun x y H Q => ∃ i j, x = .bl i ∧ y = .bl j ∧ Q (.int ((if i = true then (1 : Int) else 0) - (if j = true then (1 : Int) else 0))) H) := by
  intro pins s σ H x y v u Q I rx ry h
  obtain ⟨i, j, rfl, rfl, q⟩ := h
  cases rx
  cases ry
  exact sub_bb ⟨.int _, H, I.tok _, ⟨_, rfl⟩, q⟩
/-! ### + -/
def oAdd : D → D → Option T
  | .int i, .int j => some (.d (.int (i + j)))
  | .str a, .str b => if a.length + b.length ≤ sizeLine then some (.d (.str (a ++ b))) else none
  | .list a, .list b => if a.length + b.length ≤ sizeLine then some (.lst (a ++ b)) else none
  | .tup a, .tup b => if 0 < a.length ∧ 0 < b.length ∧ a.length + b.length ≤ sizeLine then some (.d (.tup (a ++ b))) else none
  | _, _ => none
theorem ov_add : OpV X (binaryOp .Add) oAdd := fun F A G H x y a b t Q R h1 h2 e k => by
  cases a with
  | int i =>
    cases b with
    | int j => cases e; exact OpR.go op_add ⟨i, j, h1.int _ rfl, h2.int _ rfl, k.data (.int _) R⟩
    | _ => cases e
  | str i =>
    cases b with
    | str j =>
      have e : (if i.length + j.length ≤ sizeLine then some (T.d (.str (i ++ j))) else none) = some t := e
      by_cases hz : i.length + j.length ≤ sizeLine
      · rw [if_pos hz] at e; cases e; exact OpR.go op_add_str ⟨i, j, h1.str _ rfl, h2.str _ rfl, hz, k.data (.str _) R⟩
      · rw [if_neg hz] at e; cases e
    | _ => cases e
  | list i =>
    cases b with
    | list j =>
      have e : (if i.length + j.length ≤ sizeLine then some (T.lst (i ++ j)) else none) = some t := e
      by_cases hz : i.length + j.length ≤ sizeLine
      · rw [if_pos hz] at e
        cases e
        obtain ⟨p, xs, rfl, hp, r1⟩ := h1.list _ rfl
        obtain ⟨q, ys, rfl, hq, r2⟩ := h2.list _ rfl
        exact OpR.go op_cat ⟨p, q, xs, ys, rfl, rfl, hp, hq, by rw [r1.length, r2.length]; exact hz, fun p' hp' => k.lst (r1.app r2) R hp'⟩
      · rw [if_neg hz] at e; cases e
    | _ => cases e
  | tup i =>
    cases b with
    | tup j =>
      have e : (if 0 < i.length ∧ 0 < j.length ∧ i.length + j.length ≤ sizeLine then some (T.d (.tup (i ++ j))) else none) = some t := e
      by_cases hz : 0 < i.length ∧ 0 < j.length ∧ i.length + j.length ≤ sizeLine
      · rw [if_pos hz] at e
        cases e
        obtain ⟨p, xs, rfl, hp, r1⟩ := h1.tup _ rfl
        obtain ⟨q, ys, rfl, hq, r2⟩ := h2.tup _ rfl
        have l1 := r1.length
        have l2 := r2.length
        refine OpR.go op_catT ⟨p, q, xs, ys, rfl, rfl, SqT.of hp, SqT.of hq, ?_, by omega, ?_, fun _ p' hp' => k.tup (r1.app r2) R hp'⟩
        · intro z; subst z; simp at l1; omega
        · intro z; subst z; simp at l2; omega
      · rw [if_neg hz] at e; cases e
    | _ => cases e
  | _ => cases e
def oSub : D → D → Option T
  | .int i, .int j => some (.d (.int (i - j)))
  | .bool a, .bool b => some (.d (.int ((if a = true then (1 : Int) else 0) - (if b = true then (1 : Int) else 0))))
  | _, _ => none
theorem ov_sub : OpV X (binaryOp .Sub) oSub := fun F A G H x y a b t Q R h1 h2 e k => by
  cases a with
  | int i =>
    cases b with
    | int j => cases e; exact OpR.go op_sub ⟨i, j, h1.int _ rfl, h2.int _ rfl, k.data (.int _) R⟩
    | _ => cases e
  | bool i =>
    cases b with
    | bool j => cases e; exact OpR.go op_sub_bb ⟨i, j, h1.bool _ rfl, h2.bool _ rfl, k.data (.int _) R⟩
    | _ => cases e
  | _ => cases e
/-- a product may be made -/
def mulOk (i j : Int) : Bool := decide (i.natAbs.log2 + j.natAbs.log2 < 1000000)
def oMul : D → D → Option T
  | .int i, .int j => if mulOk i j then some (.d (.int (i * j))) else none
  | .list a, .int n => if 0 ≤ n ∧ n < 1000000 ∧ a.length * n.toNat ≤ sizeLine then some (.lst (List.replicate n.toNat a).flatten) else none
  | _, _ => none
theorem isL_rep {K : PySem.W.Frag} {G : Hp} {xs : List V} {ds : List D} (r : IsL K G xs ds) : ∀ n : Nat, IsL K G (List.replicate n xs).flatten (List.replicate n ds).flatten
  | 0 => .nil
  | n + 1 => by rw [List.replicate_succ, List.replicate_succ, List.flatten_cons, List.flatten_cons]; exact r.app (isL_rep r n)
theorem ov_mul : OpV X (binaryOp .Mult) oMul := fun F A G H x y a b t Q R h1 h2 e k => by
  cases a with
  | int i =>
    cases b with
    | int j =>
      have e : (if mulOk i j = true then some (T.d (.int (i * j))) else none) = some t := e
      by_cases hz : mulOk i j = true
      · rw [if_pos hz] at e; cases e; exact OpR.go op_mulW ⟨i, j, h1.int _ rfl, h2.int _ rfl, (show i.natAbs.log2 + j.natAbs.log2 < 1000000 from of_decide_eq_true hz), k.data (.int _) R⟩
      · rw [if_neg hz] at e; cases e
    | _ => cases e
  | list i =>
    cases b with
    | int n =>
      have e : (if 0 ≤ n ∧ n < 1000000 ∧ i.length * n.toNat ≤ sizeLine then some (T.lst (List.replicate n.toNat i).flatten) else none) = some t := e
      by_cases hz : 0 ≤ n ∧ n < 1000000 ∧ i.length * n.toNat ≤ sizeLine
      · rw [if_pos hz] at e
        cases e
        obtain ⟨p, xs, rfl, hp, r1⟩ := h1.list _ rfl
        exact OpR.go op_rep ⟨p, n, xs, rfl, h2.int _ rfl, hp, by omega, by omega, by rw [r1.length]; exact hz.2.2, fun p' hp' => k.lst (isL_rep r1 _) R hp'⟩
      · rw [if_neg hz] at e; cases e
    | _ => cases e
  | _ => cases e
def divOk (j : Int) : Bool := decide (j ≠ 0) && decide (j.natAbs.log2 < 9000)
def oDiv : D → D → Option T
  | .int i, .int j => if divOk j then some (.d (.int (i.fdiv j))) else none
  | _, _ => none
def CDivG (_ j : Int) : Prop := j ≠ 0 ∧ j.natAbs.log2 < 9000
theorem op_fdivG : OpR X (binaryOp .FloorDiv) (rI CDivG fun i j => .int (i.fdiv j)) := opI fun _ _ _ _ _ _ _ hc q => floordiv_int hc.1 q (.inl (PyProof.noPylong_of_log2 hc.2))
theorem ov_div : OpV X (binaryOp .FloorDiv) oDiv := fun F A G H x y a b t Q R h1 h2 e k => by
  cases a with
  | int i =>
    cases b with
    | int j =>
      have e : (if divOk j = true then some (T.d (.int (i.fdiv j))) else none) = some t := e
      by_cases hz : divOk j = true
      · rw [if_pos hz] at e
        cases e
        have hz := (Bool.and_eq_true _ _).mp hz
        exact OpR.go op_fdivG ⟨i, j, h1.int _ rfl, h2.int _ rfl, ⟨of_decide_eq_true hz.1, of_decide_eq_true hz.2⟩, k.data (.int _) R⟩
      · rw [if_neg hz] at e; cases e
    | _ => cases e
  | _ => cases e
def oMod : D → D → Option T
  | .int i, .int j => if j = 0 then none else some (.d (.int (i.fmod j)))
  | _, _ => none
theorem ov_mod : OpV X (binaryOp .Mod) oMod := fun F A G H x y a b t Q R h1 h2 e k => by
  cases a with
  | int i =>
    cases b with
    | int j =>
      have e : (if j = 0 then none else some (T.d (.int (i.fmod j)))) = some t := e
      by_cases hz : j = 0
      · rw [if_pos hz] at e; cases e
      · rw [if_neg hz] at e; cases e; exact OpR.go op_modN ⟨i, j, h1.int _ rfl, h2.int _ rfl, hz, k.data (.int _) R⟩
    | _ => cases e
  | _ => cases e
def powOk (i j : Int) : Bool := decide (0 ≤ j ∧ j ≤ 1000000 ∧ i.natAbs < 2 ^ 64)
def oPow : D → D → Option T
  | .int i, .int j => if powOk i j then some (.d (.int (i ^ j.toNat))) else none
  | _, _ => none
theorem ov_pow : OpV X (binaryOp .Pow) oPow := fun F A G H x y a b t Q R h1 h2 e k => by
  cases a with
  | int i =>
    cases b with
    | int j =>
      have e : (if powOk i j = true then some (T.d (.int (i ^ j.toNat))) else none) = some t := e
      by_cases hz : powOk i j = true
      · rw [if_pos hz] at e; cases e; exact OpR.go op_pow ⟨i, j, h1.int _ rfl, h2.int _ rfl, (show 0 ≤ j ∧ j ≤ 1000000 ∧ i.natAbs < 2 ^ 64 from of_decide_eq_true hz), k.data (.int _) R⟩
      · rw [if_neg hz] at e; cases e
    | _ => cases e
  | _ => cases e
def oNeg : D → Option T
  | .int i => some (.d (.int (-i)))
  | _ => none
theorem uv_neg (F : Fm) (A : List Addr) (G H : Hp) (x : V) (a : D) (t : T) (Q : VK) (R : Rel F G H A) (h : Vw X.K G H x a) (e : oNeg a = some t) (k : OkO X F G H A Q t) : RunU X (unaryOp .USub) x H Q := by
  cases a with
  | int i => cases e; exact UnR.go un_neg ⟨i, h.int _ rfl, k.data (.int _) R⟩
  | _ => cases e
/-! ### < <= > >= -/
def oLt : D → D → Option T
  | .int i, .int j => some (.d (.bool (decide (i < j))))
  | .str i, .str j => some (.d (.bool (decide (i.cps.toList < j.cps.toList))))
  | _, _ => none
def oLe : D → D → Option T
  | .int i, .int j => some (.d (.bool (decide (i ≤ j))))
  | _, _ => none
def oGt : D → D → Option T
  | .int i, .int j => some (.d (.bool (decide (j < i))))
  | _, _ => none
def oGe : D → D → Option T
  | .int i, .int j => some (.d (.bool (decide (j ≤ i))))
  | _, _ => none
theorem ov_lt : OpV X (compareOp .Lt) oLt := fun F A G H x y a b t Q R h1 h2 e k => by
  cases a with
  | int i =>
    cases b with
    | int j => cases e; exact OpR.go op_lt ⟨i, j, h1.int _ rfl, h2.int _ rfl, k.data (.bl _) R⟩
    | _ => cases e
  | str i =>
    cases b with
    | str j => cases e; exact OpR.go op_lt_str ⟨i, j, h1.str _ rfl, h2.str _ rfl, k.data (.bl _) R⟩
    | _ => cases e
  | _ => cases e
theorem ov_le : OpV X (compareOp .LtE) oLe := fun F A G H x y a b t Q R h1 h2 e k => by
  cases a with
  | int i =>
    cases b with
    | int j => cases e; exact OpR.go op_le ⟨i, j, h1.int _ rfl, h2.int _ rfl, k.data (.bl _) R⟩
    | _ => cases e
  | _ => cases e
theorem ov_gt : OpV X (compareOp .Gt) oGt := fun F A G H x y a b t Q R h1 h2 e k => by
  cases a with
  | int i =>
    cases b with
    | int j => cases e; exact OpR.go op_gt ⟨i, j, h1.int _ rfl, h2.int _ rfl, k.data (.bl _) R⟩
    | _ => cases e
  | _ => cases e
theorem ov_ge : OpV X (compareOp .GtE) oGe := fun F A G H x y a b t Q R h1 h2 e k => by
  cases a with
  | int i =>
    cases b with
    | int j => cases e; exact OpR.go op_ge ⟨i, j, h1.int _ rfl, h2.int _ rfl, k.data (.bl _) R⟩
    | _ => cases e
  | _ => cases e
/-! ### is -/
def isB (x : D) (b : Bool) : Option Bool := match x with
  | .bool c => some (decide (c = b))
  | .none => some false
  | .int _ => some false
  | .str _ => some false
  | .tup _ => some false
  | .list _ => some false
  | .dict _ _ => some false
  | .dictT _ _ => some false
  | .inst _ _ _ => some false
  | _ => none
def isN (x : D) : Option Bool := match x with
  | .none => some true
  | .bool _ => some false
  | .int _ => some false
  | .str _ => some false
  | .tup _ => some false
  | .list _ => some false
  | .dict _ _ => some false
  | .dictT _ _ => some false
  | .inst _ _ _ => some false
  | _ => none
def isD2 (x y : D) : Option Bool := match y with
  | .none => isN x
  | .bool b => isB x b
  | _ => none
def oIs (x y : D) : Option T := (isD2 x y).map fun b => .d (.bool b)
def oIsNot (x y : D) : Option T := (isD2 x y).map fun b => .d (.bool (!b))
theorem isN_vw {K : PySem.W.Frag} {G H : Hp} {v : V} {x : D} {b : Bool} (h : Vw K G H v x) (e : isN x = some b) : decide (v = .non) = b := by
  cases x with
  | none => rw [h.none rfl]; cases e; rfl
  | bool => rw [h.bool _ rfl]; cases e; rfl
  | int => rw [h.int _ rfl]; cases e; rfl
  | str => rw [h.str _ rfl]; cases e; rfl
  | tup => obtain ⟨a, xs, rfl, _⟩ := h.tup _ rfl; cases e; rfl
  | list => obtain ⟨a, xs, rfl, _⟩ := h.list _ rfl; cases e; rfl
  | dict => obtain ⟨a, xs, rfl, _⟩ := h.dict _ _ rfl; cases e; rfl
  | dictT => obtain ⟨a, xs, rfl, _⟩ := h.dictT _ _ rfl; cases e; rfl
  | inst => obtain ⟨a, dx, xs, rfl, _⟩ := h.inst _ _ _ rfl; cases e; rfl
  | _ => cases e
theorem isB_vw {K : PySem.W.Frag} {G H : Hp} {v : V} {x : D} {b c : Bool} (h : Vw K G H v x) (e : isB x c = some b) : decide (v = .bl c) = b := by
  cases x with
  | none => rw [h.none rfl]; cases e; rfl
  | bool d => rw [h.bool _ rfl]; cases e; cases c <;> cases d <;> rfl
  | int => rw [h.int _ rfl]; cases e; rfl
  | str => rw [h.str _ rfl]; cases e; rfl
  | tup => obtain ⟨a, xs, rfl, _⟩ := h.tup _ rfl; cases e; rfl
  | list => obtain ⟨a, xs, rfl, _⟩ := h.list _ rfl; cases e; rfl
  | dict => obtain ⟨a, xs, rfl, _⟩ := h.dict _ _ rfl; cases e; rfl
  | dictT => obtain ⟨a, xs, rfl, _⟩ := h.dictT _ _ rfl; cases e; rfl
  | inst => obtain ⟨a, dx, xs, rfl, _⟩ := h.inst _ _ _ rfl; cases e; rfl
  | _ => cases e
theorem op_isBl : OpR X (compareOp .Is) (fun x y H Q => ∃ b, y = .bl b ∧ (∀ n, x ≠ .ty n) ∧ Q (.bl (decide (x = .bl b))) H) := by
  intro pins s σ H x y v u Q I rx ry h
  obtain ⟨b, rfl, nt, q⟩ := h
  cases ry
  cases x with
  | non => cases rx; exact wpAny_pure (fin_bl I q rfl)
  | bl c => cases rx; exact wpAny_pure (fin_bl I q (by cases b <;> cases c <;> rfl))
  | int i => obtain ⟨t, rfl⟩ := rx; exact wpAny_pure (fin_bl I q rfl)
  | str i => obtain ⟨t, rfl⟩ := rx; exact wpAny_pure (fin_bl I q rfl)
  | byt i => obtain ⟨t, rfl⟩ := rx; exact wpAny_pure (fin_bl I q rfl)
  | flt i => obtain ⟨t, rfl⟩ := rx; exact wpAny_pure (fin_bl I q rfl)
  | ref a => cases rx; exact wpAny_pure (fin_bl I q rfl)
  | ty n => exact absurd rfl (nt n)
theorem op_isnotBl : OpR X (compareOp .IsNot) (fun x y H Q => ∃ b, y = .bl b ∧ (∀ n, x ≠ .ty n) ∧ Q (.bl (!decide (x = .bl b))) H) := by
  intro pins s σ H x y v u Q I rx ry h
  obtain ⟨b, rfl, nt, q⟩ := h
  cases ry
  cases x with
  | non => cases rx; exact wpAny_pure (fin_bl I q rfl)
  | bl c => cases rx; exact wpAny_pure (fin_bl I q (by cases b <;> cases c <;> rfl))
  | int i => obtain ⟨t, rfl⟩ := rx; exact wpAny_pure (fin_bl I q rfl)
  | str i => obtain ⟨t, rfl⟩ := rx; exact wpAny_pure (fin_bl I q rfl)
  | byt i => obtain ⟨t, rfl⟩ := rx; exact wpAny_pure (fin_bl I q rfl)
  | flt i => obtain ⟨t, rfl⟩ := rx; exact wpAny_pure (fin_bl I q rfl)
  | ref a => cases rx; exact wpAny_pure (fin_bl I q rfl)
  | ty n => exact absurd rfl (nt n)
theorem isB_nt {K : PySem.W.Frag} {G H : Hp} {v : V} {x : D} {b c : Bool} (h : Vw K G H v x) (e : isB x c = some b) : ∀ n, v ≠ .ty n := by
  intro n
  cases x with
  | none => rw [h.none rfl]; exact fun z => nomatch z
  | bool d => rw [h.bool _ rfl]; exact fun z => nomatch z
  | int => rw [h.int _ rfl]; exact fun z => nomatch z
  | str => rw [h.str _ rfl]; exact fun z => nomatch z
  | tup => obtain ⟨a, xs, rfl, _⟩ := h.tup _ rfl; exact fun z => nomatch z
  | list => obtain ⟨a, xs, rfl, _⟩ := h.list _ rfl; exact fun z => nomatch z
  | dict => obtain ⟨a, xs, rfl, _⟩ := h.dict _ _ rfl; exact fun z => nomatch z
  | dictT => obtain ⟨a, xs, rfl, _⟩ := h.dictT _ _ rfl; exact fun z => nomatch z
  | inst => obtain ⟨a, dx, xs, rfl, _⟩ := h.inst _ _ _ rfl; exact fun z => nomatch z
  | _ => cases e
theorem ov_is : OpV X (compareOp .Is) oIs := fun F A G H x y a b t Q R h1 h2 e k => by
  obtain ⟨c, e1, e2⟩ := Option.map_eq_some_iff.mp e
  subst e2
  cases b with
  | none => exact OpR.go op_isN ⟨h2.none rfl, by rw [isN_vw h1 e1]; exact k.data (.bl _) R⟩
  | bool d => exact OpR.go op_isBl ⟨d, h2.bool _ rfl, isB_nt h1 e1, by rw [isB_vw h1 e1]; exact k.data (.bl _) R⟩
  | _ => cases e1
theorem ov_isnot : OpV X (compareOp .IsNot) oIsNot := fun F A G H x y a b t Q R h1 h2 e k => by
  obtain ⟨c, e1, e2⟩ := Option.map_eq_some_iff.mp e
  subst e2
  cases b with
  | none => exact OpR.go op_notN ⟨h2.none rfl, by rw [isN_vw h1 e1]; exact k.data (.bl _) R⟩
  | bool d => exact OpR.go op_isnotBl ⟨d, h2.bool _ rfl, isB_nt h1 e1, by rw [isB_vw h1 e1]; exact k.data (.bl _) R⟩
  | _ => cases e1
/-! ### == of data (no dicts, no instances in it) -/
mutual
def D.py : D → Option PyData
  | .none => some .none
  | .bool b => some (.bool b)
  | .int i => some (.int i)
  | .str x => some (.str x)
  | .tup ds => match pyL ds with
    | some ps => some (.tuple ps)
    | none => none
  | .list ds => match pyL ds with
    | some ps => some (.list ps)
    | none => none
  | _ => none
def pyL : List D → Option (List PyData)
  | [] => some []
  | d :: ds => match d.py, pyL ds with
    | some p, some ps => some (p :: ps)
    | _, _ => none
end
mutual
theorem Is.dp {K : PySem.W.Frag} {G H : Hp} (s : Same G H) {v : V} {d : D} (h : Is K G v d) {p : PyData} (e : d.py = some p) : Dp K H v p := by
  cases h with
  | non => cases e; exact .non
  | bl b => cases e; exact .bl b
  | int i => cases e; exact .int i
  | str x => cases e; exact .str x
  | @lst a xs ds h r =>
    unfold D.py at e
    cases q : pyL ds with
    | none => rw [q] at e; cases e
    | some ps => rw [q] at e; cases e; exact .lst (SqL.of (s _ _ h)) (IsL.dp s r q)
  | @tup a xs ds h r =>
    unfold D.py at e
    cases q : pyL ds with
    | none => rw [q] at e; cases e
    | some ps => rw [q] at e; cases e; exact .tup (SqT.of (s _ _ h)) (IsL.dp s r q)
  | _ => cases e
theorem IsL.dp {K : PySem.W.Frag} {G H : Hp} (s : Same G H) {vs : List V} {ds : List D} (h : IsL K G vs ds) {ps : List PyData} (e : pyL ds = some ps) : DpAll K H vs ps := by
  cases h with
  | nil => cases e; exact .nil
  | @cons v vs d ds h t =>
    unfold pyL at e
    cases q : d.py with
    | none => rw [q] at e; cases e
    | some p =>
      cases q2 : pyL ds with
      | none => rw [q, q2] at e; cases e
      | some ps' => rw [q, q2] at e; cases e; exact .cons (Is.dp s h q) (IsL.dp s t q2)
end
theorem Vw.dp {K : PySem.W.Frag} {G H : Hp} (s : Same G H) {v : V} {x : D} (h : Vw K G H v x) {p : PyData} (e : x.py = some p) : Dp K H v p := by
  cases x with
  | none => cases e; rw [h.none rfl]; exact .non
  | bool => cases e; rw [h.bool _ rfl]; exact .bl _
  | int => cases e; rw [h.int _ rfl]; exact .int _
  | str => cases e; rw [h.str _ rfl]; exact .str _
  | list ds =>
    obtain ⟨a, xs, rfl, ha, r⟩ := h.list _ rfl
    unfold D.py at e
    cases q : pyL ds with
    | none => rw [q] at e; cases e
    | some ps => rw [q] at e; cases e; exact .lst (SqL.of ha) (IsL.dp s r q)
  | tup ds =>
    obtain ⟨a, xs, rfl, ha, r⟩ := h.tup _ rfl
    unfold D.py at e
    cases q : pyL ds with
    | none => rw [q] at e; cases e
    | some ps => rw [q] at e; cases e; exact .tup (SqT.of ha) (IsL.dp s r q)
  | _ => cases e
def eqD (x y : D) : Option Bool := match x.py, y.py with
  | some p, some q => if SeqAt.shaped p && SeqAt.shaped q then some (PyData.eqv p q) else none
  | _, _ => none
theorem eqD_py {x y : D} {b : Bool} (e : eqD x y = some b) : ∃ p q, x.py = some p ∧ y.py = some q ∧ SeqAt.shaped p = true ∧ SeqAt.shaped q = true ∧ b = PyData.eqv p q := by
  unfold eqD at e
  cases h1 : x.py with
  | none => rw [h1] at e; cases e
  | some p =>
    cases h2 : y.py with
    | none => rw [h1, h2] at e; cases e
    | some q =>
      rw [h1, h2] at e
      dsimp only at e
      by_cases hz : (SeqAt.shaped p && SeqAt.shaped q) = true
      · rw [if_pos hz] at e
        obtain ⟨a, b⟩ := (Bool.and_eq_true _ _).mp hz
        exact ⟨p, q, rfl, rfl, a, b, (Option.some.inj e).symm⟩
      · rw [if_neg hz] at e; cases e
def oEq (x y : D) : Option T := (eqD x y).map fun b => .d (.bool b)
def oNe (x y : D) : Option T := (eqD x y).map fun b => .d (.bool (!b))
theorem ov_eq (hu : X.A.units + 64 < cLine) : OpV X (compareOp .Eq) oEq := fun F A G H x y a b t Q R h1 h2 e k => by
  obtain ⟨c, e1, e2⟩ := Option.map_eq_some_iff.mp e
  subst e2
  obtain ⟨p, q, e3, e4, s1, s2, rfl⟩ := eqD_py e1
  exact OpR.go (op_eqD hu) ⟨p, q, h1.dp R.gh e3, h2.dp R.gh e4, s1, s2, k.data (.bl _) R⟩
theorem ov_ne (hu : X.A.units + 64 < cLine) : OpV X (compareOp .NotEq) oNe := fun F A G H x y a b t Q R h1 h2 e k => by
  obtain ⟨c, e1, e2⟩ := Option.map_eq_some_iff.mp e
  subst e2
  obtain ⟨p, q, e3, e4, s1, s2, rfl⟩ := eqD_py e1
  exact OpR.go (op_neD hu) ⟨p, q, h1.dp R.gh e3, h2.dp R.gh e4, s1, s2, k.data (.bl _) R⟩
/-! ### in -/
def flatD : D → Bool
  | .none => true
  | .bool _ => true
  | .int _ => true
  | .str _ => true
  | _ => false
/-- == of flat values -/
def eqF : D → D → Bool
  | .none, .none => true
  | .bool a, .bool b => a == b
  | .bool a, .int b => (if a then 1 else 0) == b
  | .int a, .bool b => a == (if b then 1 else 0)
  | .int a, .int b => a == b
  | .str a, .str b => a == b
  | _, _ => false
def inD : D → D → Option Bool
  | x, .list ds => if flatD x && ds.all flatD then some (ds.any fun y => eqF y x) else none
  | x, .tup ds => if flatD x && ds.all flatD then some (ds.any fun y => eqF y x) else none
  | .str i, .str j => some (!(Builtin.Str.occurrences j i 0 j.length 1).isEmpty)
  | x, .dict ks ds => (keyD x).map fun k => (lookK ks ds k).isSome
  | x, .dictT ks ds => (tkeyD x).map fun k => (lookK ks ds k).isSome
  | _, _ => none
def oIn (x y : D) : Option T := (inD x y).map fun b => .d (.bool b)
def oNotIn (x y : D) : Option T := (inD x y).map fun b => .d (.bool (!b))
theorem flat_is {K : PySem.W.Frag} {G : Hp} {v : V} {x : D} (h : Is K G v x) (f : flatD x = true) : flatV v = true := by
  cases h <;> first | rfl | cases f
theorem eqF_is {K : PySem.W.Frag} {G : Hp} {v u : V} {x y : D} (h : Is K G v x) (h2 : Is K G u y) (f : flatD x = true) (g : flatD y = true) : L2.eqV v u = eqF x y := by
  cases h <;> first | (cases f; done) | (cases h2 <;> first | rfl | (cases g; done))
theorem flat_vw {K : PySem.W.Frag} {G H : Hp} {v : V} {x : D} (h : Vw K G H v x) (f : flatD x = true) : Is K G v x := by
  cases x with
  | none => rw [h.none rfl]; exact .non
  | bool => rw [h.bool _ rfl]; exact .bl _
  | int => rw [h.int _ rfl]; exact .int _
  | str => rw [h.str _ rfl]; exact .str _
  | _ => cases f
theorem flatL_is {K : PySem.W.Frag} {G : Hp} : ∀ {ds : List D} {vs : List V}, IsL K G vs ds → ds.all flatD = true → vs.all flatV = true
  | [], _, h, f => by cases h; rfl
  | d :: ds, _, h, f => by
    cases h with
    | cons h t =>
      rw [List.all_cons, Bool.and_eq_true] at f ⊢
      exact ⟨flat_is h f.1, flatL_is t f.2⟩
theorem inL_is {K : PySem.W.Frag} {G : Hp} {v : V} {x : D} (hx : Is K G v x) (fx : flatD x = true) : ∀ {ds : List D} {vs : List V}, IsL K G vs ds → ds.all flatD = true → inV v vs = ds.any fun y => eqF y x
  | [], _, h, f => by cases h; rfl
  | d :: ds, _, h, f => by
    cases h with
    | cons h t =>
      rw [List.all_cons, Bool.and_eq_true] at f
      unfold inV
      rw [List.any_cons, List.any_cons, eqF_is h hx f.1 fx]
      congr 1
      exact inL_is hx fx t f.2
theorem op_inD (hu : X.A.units + 64 < cLine) {a : Addr} {y : V} {o : Option V} {H : Hp} {Q : VK} (g : DGet H a y o) (q : Q (.bl o.isSome) H) : RunO X (compareOp .In) y (.ref a) H Q := fun pins s σ v u I rx ry => by
  cases ry
  exact d_in (by omega) I g rx fun s3 I3 => ⟨.bl o.isSome, H, I3, rfl, q⟩
theorem op_notinD (hu : X.A.units + 64 < cLine) {a : Addr} {y : V} {o : Option V} {H : Hp} {Q : VK} (g : DGet H a y o) (q : Q (.bl (!o.isSome)) H) : RunO X (compareOp .NotIn) y (.ref a) H Q := fun pins s σ v u I rx ry => by
  cases ry
  exact d_notIn (by omega) I g rx fun s3 I3 => ⟨.bl (!o.isSome), H, I3, rfl, q⟩
theorem inD_get {v u : V} {x y : D} {G H : Hp} {b : Bool} (s : Same G H) (h1 : Vw X.K G H v x) (h2 : Vw X.K G H u y) (e : inD x y = some b) (hd : (∃ ks ds, y = .dict ks ds) ∨ ∃ ks ds, y = .dictT ks ds) : ∃ a o, u = .ref a ∧ DGet H a v o ∧ o.isSome = b := by
  rcases hd with ⟨ks, ds, rfl⟩ | ⟨ks, ds, rfl⟩
  · obtain ⟨a, kv, rfl, ha, hk, rr⟩ := h2.dict _ _ rfl
    obtain ⟨k, e1, e2⟩ := Option.map_eq_some_iff.mp (show (keyD x).map (fun k => (lookK ks ds k).isSome) = some b by cases x <;> exact e)
    subst hk
    exact ⟨a, valV kv k, rfl, .inl ⟨kv, k, ha, keyD_vw h1 e1, rfl⟩, by rw [lookK_isSome rr]; exact e2⟩
  · obtain ⟨a, kv, rfl, ha, hk, rr⟩ := h2.dictT _ _ rfl
    obtain ⟨k, e1, e2⟩ := Option.map_eq_some_iff.mp (show (tkeyD x).map (fun k => (lookK ks ds k).isSome) = some b by cases x <;> exact e)
    subst hk
    cases x with
    | tup es =>
      obtain ⟨b', xs, rfl, hb, rb⟩ := h1.tup _ rfl
      rw [keysD_is rb e1] at hb
      exact ⟨a, valV kv k, rfl, .inr ⟨kv, k, b', ha, rfl, hb, rfl⟩, by rw [lookK_isSome rr]; exact e2⟩
    | _ => cases e1
theorem inD_seq {v u : V} {x y : D} {G H : Hp} {b : Bool} (h1 : Vw X.K G H v x) (h2 : Vw X.K G H u y) (e : inD x y = some b) (hd : (∃ ds, y = .list ds) ∨ ∃ ds, y = .tup ds) : ∃ p xs, u = .ref p ∧ (SqL X.K H p xs ∨ SqT X.K H p xs) ∧ flatV v = true ∧ xs.all flatV = true ∧ inV v xs = b := by
  rcases hd with ⟨ds, rfl⟩ | ⟨ds, rfl⟩
  · obtain ⟨p, xs, rfl, hp, r⟩ := h2.list _ rfl
    have e : (if (flatD x && ds.all flatD) = true then some (ds.any fun y => eqF y x) else none) = some b := by cases x <;> exact e
    by_cases hz : (flatD x && ds.all flatD) = true
    · rw [if_pos hz] at e
      obtain ⟨f1, f2⟩ := (Bool.and_eq_true _ _).mp hz
      have i1 := flat_vw h1 f1
      exact ⟨p, xs, rfl, .inl (SqL.of hp), flat_is i1 f1, flatL_is r f2, (inL_is i1 f1 r f2).trans (Option.some.inj e)⟩
    · rw [if_neg hz] at e; cases e
  · obtain ⟨p, xs, rfl, hp, r⟩ := h2.tup _ rfl
    have e : (if (flatD x && ds.all flatD) = true then some (ds.any fun y => eqF y x) else none) = some b := by cases x <;> exact e
    by_cases hz : (flatD x && ds.all flatD) = true
    · rw [if_pos hz] at e
      obtain ⟨f1, f2⟩ := (Bool.and_eq_true _ _).mp hz
      have i1 := flat_vw h1 f1
      exact ⟨p, xs, rfl, .inr (SqT.of hp), flat_is i1 f1, flatL_is r f2, (inL_is i1 f1 r f2).trans (Option.some.inj e)⟩
    · rw [if_neg hz] at e; cases e
theorem ov_in (hu : X.A.units + 64 < cLine) : OpV X (compareOp .In) oIn := fun F A G H x y a b t Q R h1 h2 e k => by
  obtain ⟨c, e1, e2⟩ := Option.map_eq_some_iff.mp e
  subst e2
  have kk := k.data (.bl c) R
  cases b with
  | list ds =>
    obtain ⟨p, xs, rfl, hq, f1, f2, f3⟩ := inD_seq h1 h2 e1 (.inl ⟨_, rfl⟩)
    exact OpR.go op_in_seq ⟨p, xs, rfl, hq, f1, f2, by rw [if_neg Bool.false_ne_true, f3]; exact kk⟩
  | tup ds =>
    obtain ⟨p, xs, rfl, hq, f1, f2, f3⟩ := inD_seq h1 h2 e1 (.inr ⟨_, rfl⟩)
    exact OpR.go op_in_seq ⟨p, xs, rfl, hq, f1, f2, by rw [if_neg Bool.false_ne_true, f3]; exact kk⟩
  | dict ks ds =>
    obtain ⟨p, o, rfl, g, rfl⟩ := inD_get R.gh h1 h2 e1 (.inl ⟨_, _, rfl⟩)
    exact op_inD hu g kk
  | dictT ks ds =>
    obtain ⟨p, o, rfl, g, rfl⟩ := inD_get R.gh h1 h2 e1 (.inr ⟨_, _, rfl⟩)
    exact op_inD hu g kk
  | str j =>
    cases a with
    | str i => cases e1; exact OpR.go op_in_str ⟨i, j, h1.str _ rfl, h2.str _ rfl, kk⟩
    | _ => cases e1
  | _ => cases a <;> cases e1
theorem ov_notin (hu : X.A.units + 64 < cLine) : OpV X (compareOp .NotIn) oNotIn := fun F A G H x y a b t Q R h1 h2 e k => by
  obtain ⟨c, e1, e2⟩ := Option.map_eq_some_iff.mp e
  subst e2
  have kk := k.data (.bl (!c)) R
  cases b with
  | list ds =>
    obtain ⟨p, xs, rfl, hq, f1, f2, f3⟩ := inD_seq h1 h2 e1 (.inl ⟨_, rfl⟩)
    exact OpR.go op_notIn_seq ⟨p, xs, rfl, hq, f1, f2, by rw [if_pos rfl, f3]; exact kk⟩
  | tup ds =>
    obtain ⟨p, xs, rfl, hq, f1, f2, f3⟩ := inD_seq h1 h2 e1 (.inr ⟨_, rfl⟩)
    exact OpR.go op_notIn_seq ⟨p, xs, rfl, hq, f1, f2, by rw [if_pos rfl, f3]; exact kk⟩
  | dict ks ds =>
    obtain ⟨p, o, rfl, g, rfl⟩ := inD_get R.gh h1 h2 e1 (.inl ⟨_, _, rfl⟩)
    exact op_notinD hu g kk
  | dictT ks ds =>
    obtain ⟨p, o, rfl, g, rfl⟩ := inD_get R.gh h1 h2 e1 (.inr ⟨_, _, rfl⟩)
    exact op_notinD hu g kk
  | str j =>
    cases a with
    | str i => cases e1; exact OpR.go op_notin_str ⟨i, j, h1.str _ rfl, h2.str _ rfl, kk⟩
    | _ => cases e1
  | _ => cases a <;> cases e1
end
end Dn

namespace Dn
open PySem PySem.Spec PyProof.Rows L2
/-! ### places: a slot, then attributes (class, name) -/
abbrev Path := List (Str × Str)
def fldL {α : Type} : List Str → List α → Str → Option α
  | n :: ns, t :: ts, f => if n = f then some t else fldL ns ts f
  | _, _, _ => none
def setL {α : Type} : List Str → List α → Str → α → List α
  | n :: ns, t :: ts, f, u => if n = f then u :: ts else t :: setL ns ts f u
  | _, ts, _, _ => ts
def getP : T → Path → Option T
  | t, [] => some t
  | .inst C ns ts, (C', f) :: r => if C = C' then (fldL ns ts f).bind fun u => getP u r else none
  | .d (.inst C ns ds), (C', f) :: r => if C = C' then (fldL ns ds f).bind fun x => getP (.d x) r else none
  | _, _ => none
def setP : T → Path → T → T
  | _, [], u => u
  | .inst C ns ts, (_, f) :: r, u => match fldL ns ts f with
    | some s => .inst C ns (setL ns ts f (setP s r u))
    | none => .inst C ns ts
  | t, _, _ => t
inductive PathV (K : PySem.W.Frag) (H : Hp) : V → Path → V → Prop
  | nil (v : V) : PathV K H v [] v
  | cons {a dx : Addr} {C f : Str} {fs : List (Str × V)} {w u : V} {r : Path} (h : H a = some (.ins (He.ga K C) dx fs)) (hl : fs.lookup f = some w) (t : PathV K H w r u) : PathV K H (.ref a) ((C, f) :: r) u
section
variable {K : PySem.W.Frag} {G H : Hp}
theorem TIsL.at {f : Str} {u : T} : ∀ {fs : List (Str × V)} {ts : List T} {A : List Addr}, TIsL K G H (fs.map (·.2)) ts A → fldL (fs.map (·.1)) ts f = some u → ∃ w B C, fs.lookup f = some w ∧ TIs K G H w u B ∧ A.Perm (B ++ C) ∧
    ∀ G' H' u' B', Same G G' → (∀ a ∈ C, H' a = H a) → TIs K G' H' w u' B' → ∃ A', TIsL K G' H' (fs.map (·.2)) (setL (fs.map (·.1)) ts f u') A' ∧ A'.Perm (B' ++ C)
  | [], ts, A, h, e => by cases e
  | (n, w) :: fs, [], A, h, e => by cases e
  | (n, w) :: fs, t :: ts, A, h, e => by
    cases h with
    | @cons _ _ _ _ A1 A2 h r =>
      have e : (if n = f then some t else fldL (fs.map (·.1)) ts f) = some u := e
      by_cases hn : n = f
      · rw [if_pos hn] at e
        cases e
        subst hn
        refine ⟨w, A1, A2, by rw [List.lookup_cons, beq_self_eq_true], h, List.Perm.refl _, fun G' H' u' B' s k t' => ⟨B' ++ A2, ?_, List.Perm.refl _⟩⟩
        show TIsL K G' H' (w :: fs.map (·.2)) (if n = n then u' :: ts else _) _
        rw [if_pos rfl]
        exact .cons t' (r.up s k)
      · rw [if_neg hn] at e
        obtain ⟨w', B, C, h1, h2, h3, h4⟩ := TIsL.at r e
        have hb : (f == n) = false := beq_eq_false_iff_ne.mpr (Ne.symm hn)
        refine ⟨w', B, A1 ++ C, by rw [List.lookup_cons, hb]; exact h1, h2, (List.Perm.append_left A1 h3).trans (perm3 _ _ _), fun G' H' u' B' s k t' => ?_⟩
        obtain ⟨A', e', p⟩ := h4 G' H' u' B' s (fun a ha => k a (List.mem_append_right _ ha)) t'
        refine ⟨A1 ++ A', ?_, (List.Perm.append_left A1 p).trans (perm3 _ _ _)⟩
        show TIsL K G' H' (w :: fs.map (·.2)) (if n = f then u' :: ts else t :: setL (fs.map (·.1)) ts f u') _
        rw [if_neg hn]
        exact .cons (h.up s fun a ha => k a (List.mem_append_left _ ha)) e'
theorem IsL.fld {f : Str} {u : D} : ∀ {fs : List (Str × V)} {ds : List D}, IsL K G (fs.map (·.2)) ds → fldL (fs.map (·.1)) ds f = some u → ∃ w, fs.lookup f = some w ∧ Is K G w u
  | [], ts, h, e => by cases e
  | (n, w) :: fs, [], h, e => by cases e
  | (n, w) :: fs, t :: ts, h, e => by
    cases h with
    | cons h r =>
      have e : (if n = f then some t else fldL (fs.map (·.1)) ts f) = some u := e
      by_cases hn : n = f
      · rw [if_pos hn] at e
        cases e
        subst hn
        exact ⟨w, by rw [List.lookup_cons, beq_self_eq_true], h⟩
      · rw [if_neg hn] at e
        obtain ⟨w', h1, h2⟩ := IsL.fld r e
        have hb : (f == n) = false := beq_eq_false_iff_ne.mpr (Ne.symm hn)
        exact ⟨w', by rw [List.lookup_cons, hb]; exact h1, h2⟩
theorem TIs.path (s0 : Same G H) : ∀ (p : Path) {v : V} {t u : T} {A : List Addr}, TIs K G H v t A → getP t p = some u → ∃ vu B C, PathV K H v p vu ∧ TIs K G H vu u B ∧ A.Perm (B ++ C) ∧
    (isD u = false → ∀ G' H' u' B', Same G G' → (∀ a ∈ C, H' a = H a) → TIs K G' H' vu u' B' → ∃ A', TIs K G' H' v (setP t p u') A' ∧ A'.Perm (B' ++ C))
  | [], v, t, u, A, h, e => by
    have e : some t = some u := by cases t <;> exact e
    cases e
    exact ⟨v, A, [], .nil v, h, by rw [List.append_nil], fun _ G' H' u' B' s k t' => ⟨B', by cases t <;> exact t', by rw [List.append_nil]⟩⟩
  | (C', f) :: p, v, t, u, A, h, e => by
    cases h with
    | @inst a dx C fs ns ts A0 h hn r =>
      have e3 : (if C = C' then (fldL ns ts f).bind fun u => getP u p else none) = some u := e
      by_cases hc : C = C'
      · rw [if_pos hc] at e3
        subst hc
        obtain ⟨w, e1, e2⟩ := Option.bind_eq_some_iff.mp e3
        subst hn
        obtain ⟨z, B, D0, h1, h2, h3, h4⟩ := TIsL.at r e1
        obtain ⟨vu, B1, C1, g1, g2, g3, g4⟩ := TIs.path s0 p h2 e2
        refine ⟨vu, B1, a :: (C1 ++ D0), .cons h h1 g1, g2, ?_, fun hu G' H' u' B' s k t' => ?_⟩
        · refine (List.Perm.cons a (h3.trans (List.Perm.append_right D0 g3))).trans ?_
          rw [List.append_assoc]
          exact List.perm_middle.symm
        · obtain ⟨A1, t1, p1⟩ := g4 hu G' H' u' B' s (fun b hb => k b (List.mem_cons_of_mem _ (List.mem_append_left _ hb))) t'
          obtain ⟨A2, t2, p2⟩ := h4 G' H' _ A1 s (fun b hb => k b (List.mem_cons_of_mem _ (List.mem_append_right _ hb))) t1
          refine ⟨a :: A2, ?_, ?_⟩
          · show TIs K G' H' (.ref a) (match fldL (fs.map (·.1)) ts f with
              | some s => .inst C (fs.map (·.1)) (setL (fs.map (·.1)) ts f (setP s p u'))
              | none => .inst C (fs.map (·.1)) ts) _
            rw [e1]
            exact .inst ((k a List.mem_cons_self).trans h) rfl t2
          · refine (List.Perm.cons a (p2.trans (List.Perm.append_right D0 p1))).trans ?_
            rw [List.append_assoc]
            exact List.perm_middle.symm
      · rw [if_neg hc] at e3; cases e3
    | d h =>
      cases h with
      | @inst a dx C fs ns ds h hn r =>
        have e3 : (if C = C' then (fldL ns ds f).bind fun x => getP (.d x) p else none) = some u := e
        by_cases hc : C = C'
        · rw [if_pos hc] at e3
          subst hc
          obtain ⟨w, e1, e2⟩ := Option.bind_eq_some_iff.mp e3
          subst hn
          obtain ⟨z, h1, h2⟩ := IsL.fld r e1
          obtain ⟨vu, B1, C1, g1, g2, g3, g4⟩ := TIs.path s0 p (.d h2) e2
          have hud : isD u = true := by
            clear g4 g3 g2 g1 h1 h2 e1 r h
            clear e e3
            revert w
            induction p with
            | nil => intro w e2; cases e2; rfl
            | cons q p ih =>
              intro w e2
              cases w with
              | inst C2 ns2 ds2 =>
                obtain ⟨C3, f3⟩ := q
                have e2 : (if C2 = C3 then (fldL ns2 ds2 f3).bind fun x => getP (.d x) p else none) = some u := e2
                by_cases hc : C2 = C3
                · rw [if_pos hc] at e2
                  obtain ⟨w', e3, e4⟩ := Option.bind_eq_some_iff.mp e2
                  exact ih w' e4
                · rw [if_neg hc] at e2; cases e2
              | _ => cases e2
          exact ⟨vu, B1, C1, .cons (s0 _ _ h) h1 g1, g2, g3, fun hu => by rw [hud] at hu; cases hu⟩
        · rw [if_neg hc] at e3; cases e3
      | _ => cases e
    | _ => cases e
end
/-- the place e, at the slot i: its value, what stands there -/
def SPl (X : Cx) (e : Expr) (i : Nat) (p : Path) : Prop := ∀ σ H Q v vu, σ[i]? = some (some v) → PathV X.K H v p vu → Q vu H → RunE X e σ H Q
def getE (env : Ev) (i : Nat) (p : Path) : Option T := (treeS (getS env i)).bind fun t => getP t p
def setE (env : Ev) (i : Nat) (p : Path) (u : T) : Ev := match treeS (getS env i) with
  | some t => setS env i (reS (getS env i) (setP t p u))
  | none => env
theorem PathV.app {K : PySem.W.Frag} {H : Hp} {v w u : V} {p q : Path} (h : PathV K H v p w) (h2 : PathV K H w q u) : PathV K H v (p ++ q) u := by
  induction h with
  | nil v => exact h2
  | cons h hl t ih => exact .cons h hl (ih h2)
theorem PathV.split {K : PySem.W.Frag} {H : Hp} {u : V} {q : Path} : ∀ {p : Path} {v : V}, PathV K H v (p ++ q) u → ∃ w, PathV K H v p w ∧ PathV K H w q u
  | [], v, h => ⟨v, .nil v, h⟩
  | (C, f) :: p, v, h => by
    cases h with
    | cons h hl t =>
      obtain ⟨w, h1, h2⟩ := PathV.split t
      exact ⟨w, .cons h hl h1, h2⟩
section
variable {X : Cx} {W : WX} {F : Fm} {ps : List V} {σ : L2.St} {G H : Hp} {A : List Addr} {env : Ev} {β : Type} {ok : β → Ev → Prop} {e e2 e3 : Expr} {es : List Expr} {d d2 d3 : DE} {K1 : VK} {x : Str} {pos : Pos} {i : Nat} {p : Path}
theorem SPl.name (hN : X.N[i]? = some x) (hv : visB X.env.scope x = true) (hd : (x == ("__debug__" : Str)) = false) (hcd : (x == ("__classdict__" : Str)) = false) : SPl X (.Name x pos) i [] := fun σ H Q v vu hs h q => by
  cases h
  exact PE.go (pe_var hN (vis_of hv) hd hcd) ⟨v, hs, q⟩
theorem SPl.attr {C f : Str} (cl : Cls X.K (He.ga X.K C)) (na : NoAttr X.K (He.ga X.K C) f) (hb : attributeBase e f X.env (eval e X.env) = eval e X.env) (h : SPl X e i p) : SPl X (.Attribute e f pos) i (p ++ [(C, f)]) := fun σ H Q v vu hs hp q => by
  obtain ⟨w, h1, h2⟩ := hp.split
  cases h2 with
  | cons g hl t =>
    cases t
    exact PE.go (pe_fld pe_run hb) (h σ H _ v _ hs h1 ⟨_, _, _, _, _, rfl, g, cl, na, hl, q⟩)
theorem EvIs.place {K : PySem.W.Frag} (h : EvIs K G H ps σ env A) (s0 : Same G H) {u : T} (e : getE env i p = some u) : ∃ v vu B C, σ[i]? = some (some v) ∧ PathV K H v p vu ∧ TIs K G H vu u B ∧ A.Perm (B ++ C) ∧
    (isD u = false → ∀ G' H' u' B', Same G G' → (∀ a ∈ C, H' a = H a) → TIs K G' H' vu u' B' → ∃ A', EvIs K G' H' ps σ (setE env i p u') A' ∧ A'.Perm (B' ++ C)) := by
  obtain ⟨t, e1, e2⟩ := Option.bind_eq_some_iff.mp (show (treeS (getS env i)).bind _ = some u from e)
  obtain ⟨v, B0, C0, h1, h2, h3, h4⟩ := h.tree e1
  obtain ⟨vu, B1, C1, g1, g2, g3, g4⟩ := TIs.path s0 p h2 e2
  refine ⟨v, vu, B1, C1 ++ C0, h1, g1, g2, ?_, fun hu G' H' u' B' s k t' => ?_⟩
  · refine (h3.trans (List.Perm.append_right C0 g3)).trans ?_
    rw [List.append_assoc]
  · obtain ⟨A1, t1, p1⟩ := g4 hu G' H' u' B' s (fun b hb => k b (List.mem_append_left _ hb)) t'
    obtain ⟨A2, t2, p2⟩ := h4 G' H' _ A1 s (fun b hb => k b (List.mem_append_right _ hb)) t1
    refine ⟨A2, ?_, ?_⟩
    · unfold setE; rw [e1]; exact t2
    · refine (p2.trans (List.Perm.append_right C0 p1)).trans ?_
      rw [List.append_assoc]
/-- the place's value; a tree of our own becomes data there -/
def dPl (i : Nat) (p : Path) : DE := fun env => match getE env i p with
  | some t => .ok (.d t.frz) (if isD t = true then env else setE env i p (.d t.frz))
  | none => .stuck
def pkP (i : Nat) (p : Path) : Ev → Rs D := fun env => match getE env i p with
  | some t => .ok t.frz env
  | none => .stuck
theorem SE.pl (h : SPl X e i p) : SE X W e (dPl i p) := fun F ps σ G H A Q env I R P => by
  unfold dPl at P
  cases q : getE env i p with
  | none => rw [q] at P; exact P.elim
  | some t =>
    rw [q] at P
    obtain ⟨v, vu, B, C, h1, h2, h3, h4, h5⟩ := I.place R.gh q
    refine RunE.fix (h σ H _ v vu h1 h2 fun pins s J => ?_)
    by_cases hD : isD t = true
    · have P : okE X F ps σ G Q (.d t.frz) (if isD t = true then env else setE env i p (.d t.frz)) := P
      rw [if_pos hD] at P
      rw [isD_frz hD] at h3
      cases h3 with
      | d h3 => exact ⟨H, J, P vu G H A [] (Same.refl G) I (.d h3) R⟩
    · have P : okE X F ps σ G Q (.d t.frz) (if isD t = true then env else setE env i p (.d t.frz)) := P
      rw [if_neg hD] at P
      obtain ⟨G2, H2, J2, s2, k2, i2, R2⟩ := h3.freeze (R.perm h4) J
      obtain ⟨A', e', p'⟩ := h5 (by simpa using hD) G2 H2 (.d t.frz) [] s2 k2 (.d i2)
      exact ⟨H2, J2, P vu G2 H2 A' [] s2 e' (.d i2) (R2.perm p'.symm)⟩
theorem SV.pl (h : SPl X e i p) : SV X W e (pkP i p) := fun F ps σ G H A Q env I R P => by
  unfold pkP at P
  cases q : getE env i p with
  | none => rw [q] at P; exact P.elim
  | some t =>
    rw [q] at P
    obtain ⟨v, vu, B, C, h1, h2, h3, h4, h5⟩ := I.place R.gh q
    exact h σ H _ v vu h1 h2 (P vu G H A (Same.refl G) I (h3.vw R.gh) R)
end

/-! ### blocks -/
def dSeq (d1 d2 : DS) : DS := fun env => (d1 env).bind fun w env => match w with
  | .nx => d2 env
  | w => .ok w env
def dSkip : DS := fun env => .ok .nx env
section
variable {X : Cx} {W : WX} {F : Fm} {ps : List V} {σ : L2.St} {G H : Hp} {A : List Addr} {env : Ev} {e e2 e3 tg : Expr} {es : List Expr} {d d2 d3 : DE} {x : Str} {pos p1 p2 : Pos} {i : Nat} {p : Path} {st : Stmt} {rest body els : List Stmt} {s1 s2 : DS} {b1 : Ev → Rs Bool}
theorem SB.nil : SB X W [] dSkip := fun F ps σ G H A D env I R P => PSs.go pss_nil (P σ G H A (Same.refl G) I R)
theorem SB.cons (h1 : SS X W st s1) (h2 : SB X W rest s2) : SB X W (st :: rest) (dSeq s1 s2) := fun F ps σ G H A D env I R P => by
  refine PSs.go (pss_cons ps_run pb_run) (h1 F ps σ G H A _ env I R ?_)
  unfold dSeq at P
  cases q : s1 env with
  | ok w env1 =>
    rw [q] at P
    cases w with
    | nx => exact fun σ' G' H' A' s' I' R' => h2 F ps σ' G' H' A' D env1 I' R' (Rs.post.imp (post_up s' P) (fun _ _ _ h => okS.up s' h) fun _ _ _ _ h => h)
    | rt t => exact P
    | bk => exact P
    | ct => exact P
  | exc c fs env1 => rw [q] at P; exact P
  | stuck => rw [q] at P; exact P
theorem SB.one (h1 : SS X W st s1) : SB X W [st] (dSeq s1 dSkip) := SB.cons h1 SB.nil
/-! ### name = value -/
def locB (sc : Scope) (x : Str) : Bool := match sc.names.lookup x with
  | some .local => true
  | some .cell => true
  | _ => false
theorem loc_of {sc : Scope} {x : Str} (h : locB sc x = true) : Loc sc x := by
  unfold locB at h
  cases q : sc.names.lookup x with
  | none => rw [q] at h; cases h
  | some k =>
    rw [q] at h
    cases k with
    | «local» => exact .inl q
    | cell => exact .inr q
    | _ => cases h
def fnB (X : Cx) (x : Str) : Bool := X.fn x || match X.env.scope.names.lookup x with
  | some .local => true
  | _ => false
theorem fn_ofB {X : Cx} {x : Str} (h : fnB X x = true) : X.fn x = true ∨ X.env.scope.names.lookup x = some .local := by
  unfold fnB at h
  rcases (Bool.or_eq_true _ _).mp h with h | h
  · exact .inl h
  · cases q : X.env.scope.names.lookup x with
    | none => rw [q] at h; cases h
    | some k =>
      rw [q] at h
      cases k with
      | «local» => exact .inr rfl
      | _ => cases h
def putS (i : Nat) (t : T) (env : Ev) : Option Ev := if isPar (getS env i) = true then none else some (setS env i (.loc t))
def nxO (o : Option Ev) : Rs Fw := match o with
  | some env => .ok .nx env
  | none => .stuck
def dSet (i : Nat) (d : DE) : DS := fun env => (d env).bind fun t env => nxO (putS i t env)
theorem putS_run {i : Nat} {t : T} {v : V} {B : List Addr} {env' : Ev} (I : EvIs X.K G H ps σ env A) (R : Rel F G H (B ++ A)) (h : TIs X.K G H v t B) (e : putS i t env = some env') : ∃ A', EvIs X.K G H ps (σ.set i (some v)) env' A' ∧ Rel F G H A' := by
  unfold putS at e
  by_cases hp : isPar (getS env i) = true
  · rw [if_pos hp] at e; cases e
  · rw [if_neg hp] at e
    cases e
    exact I.putR (by simpa using hp) h R
theorem SS.set (hN : X.N.Nodup) (hi : X.N[i]? = some x) (hx : locB X.env.scope x = true) (hf : fnB X x = true) (hs : swapsWith e (some (.Name x p1)) pos.line X.env = pure false) (h : SE X W e d) : SS X W (.Assign [.Name x p1] e pos) (dSet i d) := fun F ps σ G H A D env I R P =>
  PS.go (ps_set hN hi (loc_of hx) pe_run hs (fn_ofB hf)) (h.seq I R P fun t env1 v G1 H1 A1 B s1 I1 i1 R1 P1 => by
    cases q : putS i t env1 with
    | none => rw [q] at P1; exact P1.elim
    | some env2 =>
      rw [q] at P1
      obtain ⟨A2, I2, R2⟩ := putS_run I1 R1 i1 q
      exact P1 _ G1 H1 A2 s1 I2 R2)
/-! ### other targets -/
def SG (X : Cx) (tg : Expr) (g : D → Ev → Option Ev) : Prop := ∀ F ps σ G H A v x env env' Q, EvIs X.K G H ps σ env A → Rel F G H A → Is X.K G v x → g x env = some env' →
  (∀ σ' A', EvIs X.K G H ps σ' env' A' → Rel F G H A' → Q σ' H) → RunG X tg v σ H Q
def SGs (X : Cx) (ts : List Expr) (g : List D → Ev → Option Ev) : Prop := ∀ F ps σ G H A vs xs env env' Q, EvIs X.K G H ps σ env A → Rel F G H A → IsL X.K G vs xs → g xs env = some env' →
  (∀ σ' A', EvIs X.K G H ps σ' env' A' → Rel F G H A' → Q σ' H) → RunGs X ts vs σ H Q
def gNm (i : Nat) : D → Ev → Option Ev := fun x env => putS i (.d x) env
def gNil : List D → Ev → Option Ev := fun xs env => match xs with
  | [] => some env
  | _ => none
def gCons (g : D → Ev → Option Ev) (gs : List D → Ev → Option Ev) : List D → Ev → Option Ev := fun xs env => match xs with
  | x :: xs => (g x env).bind fun env => gs xs env
  | [] => none
def gTup (n : Nat) (gs : List D → Ev → Option Ev) : D → Ev → Option Ev := fun x env => match x with
  | .tup xs => if xs.length = n then gs xs env else none
  | _ => none
theorem SG.name (hN : X.N.Nodup) (hi : X.N[i]? = some x) (hx : locB X.env.scope x = true) (hf : fnB X x = true) : SG X (.Name x pos) (gNm i) := fun F ps σ G H A v z env env' Q I R h e k => by
  obtain ⟨A', I', R'⟩ := putS_run (B := []) I R (.d h) e
  exact PG.go (pg_name hN hi (loc_of hx) (fn_ofB hf)) (k _ A' I' R')
theorem SGs.nil : SGs X [] gNil := fun F ps σ G H A vs xs env env' Q I R h e k => by
  cases h with
  | nil => cases e; exact PGs.go pgs_nil ⟨rfl, k σ A I R⟩
  | cons => cases e
theorem SGs.cons {g : D → Ev → Option Ev} {gs : List D → Ev → Option Ev} (hs : (assignEach (e :: es) X.env).map (·.2) = assign e X.env :: (assignEach es X.env).map (·.2)) (h1 : SG X e g) (h2 : SGs X es gs) : SGs X (e :: es) (gCons g gs) := fun F ps σ G H A vs xs env env' Q I R h e k => by
  cases h with
  | nil => cases e
  | cons h t =>
    obtain ⟨env1, e1, e2⟩ := Option.bind_eq_some_iff.mp e
    exact PGs.go (pgs_cons pg_run pgs_run hs) ⟨_, _, rfl, h1 F ps σ G H A _ _ env env1 _ I R h e1 fun σ1 A1 I1 R1 => h2 F ps σ1 G H A1 _ _ env1 env' Q I1 R1 t e2 k⟩
theorem SG.tup {n k1 : Nat} {gs : List D → Ev → Option Ev} (hc : X.calm = true) (hn : (assignEach es X.env).length = n) (hst : (assignEach es X.env).findIdx? (·.1) = none) (h : SGs X es gs) : SG X (.Tuple es k1 pos) (gTup n gs) := fun F ps σ G H A v x env env' Q I R h1 e k => by
  cases x with
  | tup xs =>
    have e : (if xs.length = n then gs xs env else none) = some env' := e
    by_cases hl : xs.length = n
    · rw [if_pos hl] at e
      obtain ⟨a, vs, rfl, ha, r⟩ := h1.tupE
      exact PG.go (pg_tup hc pgs_run (hn.trans hl.symm) hst) ⟨a, vs, rfl, SqT.of (R.gh _ _ ha), r.length, h F ps σ G H A vs xs env env' Q I R r e k⟩
    · rw [if_neg hl] at e; cases e
  | _ => cases e
def dAsg (g : D → Ev → Option Ev) (d : DE) : DS := fun env => (d env).bindD fun x env => nxO (g x env)
theorem SS.asg {g : D → Ev → Option Ev} (hs : swapsWithSole [tg] e pos.line X.env = pure false) (hw : swappedStores [tg] e X.env = pure none) (h1 : (assignEach [tg] X.env).map (·.2) = [assign tg X.env]) (hg : SG X tg g) (h : SE X W e d) : SS X W (.Assign [tg] e pos) (dAsg g d) := fun F ps σ G H A D env I R P =>
  PS.go (ps_asg pe_run pg_run hs hw h1) (h.seqD I R P fun x env1 v G1 H1 A1 s1 I1 i1 R1 P1 => by
    cases q : g x env1 with
    | none => rw [q] at P1; exact P1.elim
    | some env2 =>
      rw [q] at P1
      exact hg F ps σ G1 H1 A1 v x env1 env2 _ I1 R1 i1 q fun σ' A' I' R' => P1 σ' G1 H1 A' s1 I' R')
/-! ### the rest -/
def dExpr (d : DE) : DS := fun env => (d env).bind fun _ env => .ok .nx env
theorem SS.expr (hs : swapsWith e none pos.line X.env = pure false) (h : SE X W e d) : SS X W (.Expr e pos) (dExpr d) := fun F ps σ G H A D env I R P =>
  PS.go (ps_expr pe_run hs) (h.seq I R P fun t env1 v G1 H1 A1 B s1 I1 i1 R1 P1 => P1 σ G1 H1 A1 s1 I1 R1.right)
theorem SS.pass : SS X W (.Pass pos) dSkip := fun F ps σ G H A D env I R P => PS.go ps_pass (P σ G H A (Same.refl G) I R)
theorem SS.brk : SS X W (.Break pos) (fun env => .ok .bk env) := fun F ps σ G H A D env I R P => PS.go ps_break (P σ G H A (Same.refl G) I R)
theorem SS.ctn : SS X W (.Continue pos) (fun env => .ok .ct env) := fun F ps σ G H A D env I R P => PS.go ps_continue (P σ G H A (Same.refl G) I R)
def dRet (d : DE) : DS := fun env => (d env).bind fun t env => .ok (.rt t) env
theorem SS.ret (h : SE X W e d) : SS X W (.Return (some e) pos) (dRet d) := fun F ps σ G H A D env I R P =>
  PS.go (ps_ret pe_run) (h.seq I R P fun t env1 v G1 H1 A1 B s1 I1 i1 R1 P1 => P1 v σ G1 H1 A1 B s1 I1 i1 R1)
/-- return a name: a tree of our own is handed over -/
def dRetV (i : Nat) : DS := fun env => match getS env i with
  | .loc t => .ok (.rt t) (setS env i (.loc (.d .none)))
  | .par _ => dRet (dVar i) env
  | .none => .stuck
theorem SS.retN (hN : X.N[i]? = some x) (hv : visB X.env.scope x = true) (hd : (x == ("__debug__" : Str)) = false) (hcd : (x == ("__classdict__" : Str)) = false) : SS X W (.Return (some (.Name x p1)) pos) (dRetV i) := fun F ps σ G H A D env I R P => by
  have pl := I.pull i
  unfold Pulled at pl
  unfold dRetV at P
  cases q : getS env i with
  | none => rw [q] at P; exact P.elim
  | par t => rw [q] at P; exact SS.ret (SE.var hN hv hd hcd) F ps σ G H A D env I R P
  | loc t =>
    rw [q] at P pl
    obtain ⟨v, B, C, h1, h2, h3, h4⟩ := pl
    obtain ⟨A', e', p'⟩ := h4 G H .non (.d .none) [] (Same.refl G) (fun _ _ => rfl) (.d .non)
    refine PS.go (ps_ret pe_run) (PE.go (pe_var hN (vis_of hv) hd hcd) ⟨v, h1, P v _ G H A' B (Same.refl G) e' h2 (R.perm (h3.trans (List.Perm.append_left B p'.symm)))⟩)
theorem SS.ret0 : SS X W (.Return none pos) (fun env => .ok (.rt (.d .none)) env) := fun F ps σ G H A D env I R P =>
  PS.go ps_retN (P .non σ G H A [] (Same.refl G) I (.d .non) R)
def dIte (b : Ev → Rs Bool) (s1 s2 : DS) : DS := fun env => (b env).bind fun b env => if b = true then s1 env else s2 env
theorem SS.ite (hc : ST X W e b1) (h1 : SB X W body s1) (h0 : SB X W els s2) : SS X W (.If e body els pos) (dIte b1 s1 s2) := fun F ps σ G H A D env I R P =>
  PS.go (ps_if pt_run pb_run pb_run) (hc.seq I R P fun b env1 G1 H1 A1 s1 I1 R1 P1 => by
    cases b with
    | true => exact h1 F ps σ G1 H1 A1 D env1 I1 R1 (Rs.post.imp P1 (fun _ _ _ h => okS.up s1 h) fun _ _ _ _ h => h)
    | false => exact h0 F ps σ G1 H1 A1 D env1 I1 R1 (Rs.post.imp P1 (fun _ _ _ h => okS.up s1 h) fun _ _ _ _ h => h))
end
end Dn

namespace Dn
open PySem PySem.Spec PyProof.Rows L2
/-! ### what a def promises -/
structure FnG (P : Program) (w : World) (K : PySem.W.Frag) (mg : Str → Option Value) (base : Heap) (CX : CXT) (k : Nat) (f : Addr) (fd : FuncData) (ps : List Str) (sp : Sp) : Prop where
  len : ∀ vs H Q E, sp vs H Q E → vs.length = ps.length
  run : ∀ (A : Around) (outer : List Env) (s : Shared) (H : Hp) (args : Args) (us : List Value) (vs : List V) (Q : VK) (E : XK), Room k A → A.guards = some [] → Env0 P w K mg base A outer s H → BindsTo s fd args (ps.zip us) → Vals vs us → sp vs H Q E →
    codeAny (model P w) A (.call (.ref f) args) (CR CX outer P w H s Q E) s
section
variable {P : Program} {w : World} {K : PySem.W.Frag} {mg : Str → Option Value} {base : Heap} {CX : CXT} {k : Nat} {f : Addr} {fd : FuncData} {N ps : List Str} {sp : Sp} {x name qual : Str} {params : Arguments} {body : List Stmt} {scope : Scope} {dvs : List V} {kws : List (Str × V)}
theorem FnG.ex {α : Type} {sp : α → Sp} (F : ∀ x, FnG P w K mg base CX k f fd ps (sp x)) : FnG P w K mg base CX k f fd ps (fun vs H Q E => ∃ x, sp x vs H Q E) :=
  ⟨fun vs H Q E ⟨x, h⟩ => (F x).len vs H Q E h, fun A outer s H args us vs Q E hr hg e0 hb r ⟨x, h⟩ => (F x).run A outer s H args us vs Q E hr hg e0 hb r h⟩
theorem FnG.imp {sp' : Sp} (F : FnG P w K mg base CX k f fd ps sp) (h : ∀ vs H Q E, sp' vs H Q E → sp vs H Q E) : FnG P w K mg base CX k f fd ps sp' :=
  ⟨fun vs H Q E z => F.len vs H Q E (h vs H Q E z), fun A outer s H args us vs Q E hr hg e0 hb r z => F.run A outer s H args us vs Q E hr hg e0 hb r (h vs H Q E z)⟩
theorem fng_of {dV kV doc pm cdv ct oc : Value} {an od : Option Addr} {osl : Array (Option Value)} (lk : K.lookup f = some ⟨oc, od, .func (PySem.W.fnOf name qual params body scope dV kV doc pm an cdv ct), osl⟩) (hcd : PySem.W.codeIn K cdv qual = true) (S : FnScope N ps scope)
    (len : ∀ vs H Q E, sp vs H Q E → vs.length = ps.length)
    (hbody : ∀ (A : Around) (outer : List Env) (s : Shared) (H : Hp) (vs : List V) (Q : VK) (E : XK), Room k (A.deeper (envOfC qual scope s.heap.objs.size f cdv)) → A.guards = some [] → sp vs H Q E →
      ∃ t, PSs (cxOf CX P w K mg base N qual scope f cdv A outer s H E) body t ∧ t { nx := fun _ H' => Q .non H', rt := Q } (start N vs) H) :
    FnG P w K mg base CX (k + 1) f (PySem.W.fnOf name qual params body scope dV kV doc pm an cdv ct) ps sp where
  len := len
  run A outer s H args us vs Q E hr hg e0 hb r hsp := by
    have up : ∀ b o, base.get? b = some o → s.heap.get? b = some o := fun b o e => (e0.bs b o e).1
    have KX : K.In s.heap := e0.mod.kin.keeps up
    have par : ∀ y ∈ ps.zip us, scope.names.lookup y.1 = some .local ∨ (scope.names.lookup y.1 = some .cell ∧ ((cellsFrom (s.heap.objs.size + 1) scope.names []).lookup y.1).isSome = true) := by
      rintro ⟨n, v⟩ hy
      exact (S.par n (List.of_mem_zip hy).1).imp id fun q => ⟨q, PySem.W.cellsFrom_some _ _ _ (.inl q)⟩
    refine codeAny_call_function hr.depth (KX _ _ lk) rfl S.co S.gen rfl (PySem.W.codeRec_of KX hcd) (hb _ _ _ _ (wpAny_newFunctionEnv_cells S.kind par fun env he s1 x => ?_))
    subst he
    obtain ⟨t, ht, hq⟩ := hbody A outer s H vs Q E (hr.deeper _) hg hsp
    refine ⟨(e0.mod.nolimit.keeps up).keeps x.toInCall.keep, codeAny_func (wpAny_mono (ht.run [] s1 (start N vs) H _ (inv_start S hr.hd e0 (len _ _ _ _ hsp) r x) hq) (fun fl s' hs => ?_) fun e s' hs => hs)⟩
    cases fl with
    | ret u => exact let ⟨v, _, H', J, rv, q⟩ := hs; ⟨v, H', J.os, J.bare, J.base, J.hok, rv, q⟩
    | next => exact let ⟨_, H', J, q⟩ := hs; ⟨V.non, H', J.os, J.bare, J.base, J.hok, rfl, q⟩
    | brk => exact let ⟨_, _, _, q⟩ := hs; q.elim
    | cont => exact let ⟨_, _, _, q⟩ := hs; q.elim
end
/-- the values of the parameters that are handed back -/
def maskd {α : Type} : List Bool → List α → List α
  | true :: ms, v :: vs => v :: maskd ms vs
  | false :: ms, _ :: vs => maskd ms vs
  | _, _ => []
def mOk : List Bool → List T → Prop
  | [], [] => True
  | m :: ms, t :: ts => (m = true ∨ isD t = true) ∧ mOk ms ts
  | _, _ => False
def ev0 : List Bool → List T → Nat → Ev
  | true :: ms, t :: ts, n + 1 => .par t :: ev0 ms ts n
  | false :: ms, t :: ts, n + 1 => .loc t :: ev0 ms ts n
  | _, _, n => List.replicate n .none
def backs : Ev → List T
  | [] => []
  | .par t :: r => t :: backs r
  | _ :: r => backs r
def fin (r : Rs Fw) : FR := match r with
  | .ok (.rt t) env => .ok t (backs env)
  | .ok .nx env => .ok (.d .none) (backs env)
  | .exc c fs env => .exc c fs (backs env)
  | _ => .stuck
/-- a body as a function of its arguments -/
def fnOf (mask : List Bool) (n : Nat) (d : DS) : Fn := fun ts => fin (d (ev0 mask ts n))
def spF (K : PySem.W.Frag) (mask : List Bool) (Fn' : Fn) : Sp := fun vs H Q E => ∃ ts A G, TIsL K G H vs ts A ∧ mOk mask ts ∧ Same G H ∧ A.Nodup ∧ (∀ a ∈ A, G a = none ∧ ∃ o, H a = some o) ∧
  match Fn' ts with
  | .ok t back => ∀ v G' H' A' B, Rel ⟨G, H, fun a => a ∈ A⟩ G' H' (B ++ A') → TIs K G' H' v t B → TIsL K G' H' (maskd mask vs) back A' → Q v H'
  | .exc c fs back => ∀ cls dx G' H' A', Rel ⟨G, H, fun a => a ∈ A⟩ G' H' A' → TIsL K G' H' (maskd mask vs) back A' → ExcIs K G' c fs cls dx → E cls dx H'
  | .stuck => False
section
variable {K : PySem.W.Frag} {G H : Hp}
theorem mOk_len : ∀ {ms : List Bool} {ts : List T}, mOk ms ts → ms.length = ts.length
  | [], [], _ => rfl
  | [], _ :: _, h => h.elim
  | _ :: _, [], h => h.elim
  | _ :: ms, _ :: ts, h => congrArg (· + 1) (mOk_len h.2)
theorem TIsL.length : ∀ {vs : List V} {ts : List T} {A : List Addr}, TIsL K G H vs ts A → vs.length = ts.length
  | _, _, _, .nil => rfl
  | _, _, _, .cons _ t => congrArg (· + 1) t.length
theorem EvIs.nones : ∀ (n : Nat), EvIs K G H [] (List.replicate n Option.none) (List.replicate n .none) []
  | 0 => .nil
  | n + 1 => .none (EvIs.nones n)
theorem EvIs.start : ∀ {ms : List Bool} {vs : List V} {ts : List T} {A : List Addr} {n : Nat}, TIsL K G H vs ts A → mOk ms ts → vs.length ≤ n → EvIs K G H (maskd ms vs) (vs.map some ++ List.replicate (n - vs.length) Option.none) (ev0 ms ts n) A
  | [], _, _, _, n, .nil, _, _ => by
    show EvIs K G H [] ([] ++ List.replicate (n - 0) Option.none) (List.replicate n .none) []
    rw [List.nil_append, Nat.sub_zero]; exact EvIs.nones n
  | _ :: _, _, _, _, _, .nil, h, _ => h.elim
  | [], _, _, _, _, .cons _ _, h, _ => h.elim
  | m :: ms, v :: vs, t :: ts, _, 0, .cons _ _, _, hn => by simp at hn
  | m :: ms, v :: vs, t :: ts, _, n + 1, .cons h r, hm, hn => by
    have e : n + 1 - (v :: vs).length = n - vs.length := by rw [List.length_cons]; omega
    rw [e]
    have ih := EvIs.start (ms := ms) (n := n) r hm.2 (by rw [List.length_cons] at hn; omega)
    cases m with
    | true => exact .par h ih
    | false => exact .loc h ih
theorem EvIs.backs {ps : List V} {σ : L2.St} {env : Ev} {A : List Addr} (h : EvIs K G H ps σ env A) : ∃ A', TIsL K G H ps (backs env) A' ∧ A'.Sublist A := by
  induction h with
  | nil => exact ⟨[], .nil, List.Sublist.refl _⟩
  | none r ih => exact ih
  | loc h r ih =>
    obtain ⟨A', t, s⟩ := ih
    exact ⟨A', t, s.trans (List.sublist_append_right _ _)⟩
  | par h r ih =>
    obtain ⟨A', t, s⟩ := ih
    exact ⟨_, .cons h t, List.Sublist.append_left s _⟩
end
/-! ### a def keeps its promise -/
section
variable {P : Program} {w : World} {K : PySem.W.Frag} {mg : Str → Option Value} {base : Heap} {k : Nat} {f : Addr} {fd : FuncData} {N ps : List Str} {x qual : Str} {params : Arguments} {body : List Stmt} {scope : Scope} {dvs : List V} {kws : List (Str × V)} {mask : List Bool} {d : DS}
/-- what is to be shown of a body: in every entry it does what d says -/
def BodyD (P : Program) (w : World) (K : PySem.W.Frag) (mg : Str → Option Value) (base : Heap) (N : List Str) (qual : Str) (scope : Scope) (body : List Stmt) (f : Addr) (k : Nat) (d : DS) : Prop :=
  ∀ (cdv : Value) (A : Around) (outer : List Env) (s : Shared) (H : Hp) (E : XK), Room k (A.deeper (envOfC qual scope s.heap.objs.size f cdv)) → (A.deeper (envOfC qual scope s.heap.objs.size f cdv)).guards = some [] →
    Takes (cxOf (L2.CX P w) P w K mg base N qual scope f cdv A outer s H E) (fun cls dx _ H' => E cls dx H') → PassesOwn (model P w) (A.deeper (envOfC qual scope s.heap.objs.size f cdv)) (envOfC qual scope s.heap.objs.size f cdv) (cxOf (L2.CX P w) P w K mg base N qual scope f cdv A outer s H E).xe →
    SB (cxOf (L2.CX P w) P w K mg base N qual scope f cdv A outer s H E) (fun cls dx _ H' => E cls dx H') body d
theorem fn_ok (F : FunD K x qual params body scope dvs kws f fd) (S : FnScope N ps scope) (hm : mask.length = ps.length) (hN : ps.length ≤ N.length) (hb : BodyD P w K mg base N qual scope body f k d) : FnG P w K mg base (L2.CX P w) (k + 1) f fd ps (spF K mask (fnOf mask N.length d)) := by
  obtain ⟨oc, od, dV, kV, doc, pm, an, cdv, ct, osl, rfl, lk, hcd, _, _⟩ := F.ex
  refine fng_of lk hcd S (fun vs H Q E h => ?_) fun A outer s H vs Q E hr hg h => ?_
  · obtain ⟨ts, A, G, h1, h2, _⟩ := h
    rw [h1.length, ← mOk_len h2, hm]
  · obtain ⟨ts, A0, G, h1, h2, h3, h4, h5, h6⟩ := h
    have hl : vs.length ≤ N.length := by rw [h1.length, ← mOk_len h2, hm]; exact hN
    refine ⟨_, pb_run, hb cdv A outer s H E hr hg (takes_of rfl rfl rfl rfl) (passes_of rfl) ⟨G, H, fun a => a ∈ A0⟩ (maskd mask vs) _ G H A0 _ (ev0 mask ts N.length) (EvIs.start h1 h2 hl)
      ⟨Same.refl G, h3, fun _ _ _ z => z, fun _ z => z, fun _ _ z => .inl z, fun a ha => ⟨(h5 a ha).1, (h5 a ha).2, .inl ha⟩, h4⟩ ?_⟩
    unfold fnOf at h6
    cases q : d (ev0 mask ts N.length) with
    | stuck => rw [q] at h6; exact h6.elim
    | exc c fs env =>
      rw [q] at h6
      intro cls dx σ' G' H' A' s' I' R' x'
      obtain ⟨A2, t2, sl⟩ := I'.backs
      exact h6 cls dx G' H' A2 (R'.sub (fun a ha => sl.subset ha) (sl.nodup R'.nd)) t2 x'
    | ok fw env =>
      rw [q] at h6
      cases fw with
      | nx =>
        intro σ' G' H' A' s' I' R'
        obtain ⟨A2, t2, sl⟩ := I'.backs
        exact h6 .non G' H' A2 [] (R'.sub (fun a ha => sl.subset ha) (sl.nodup R'.nd)) (.d .non) t2
      | rt t =>
        intro v σ' G' H' A' B s' I' i' R'
        obtain ⟨A2, t2, sl⟩ := I'.backs
        have sl2 : (B ++ A2).Sublist (B ++ A') := List.Sublist.append_left sl _
        exact h6 v G' H' A2 B (R'.sub (fun a ha => sl2.subset ha) (sl2.nodup R'.nd)) i' t2
      | bk => exact h6.elim
      | ct => exact h6.elim
end
/-! ### a call -/
def vD : V → D
  | .non => .none
  | .bl b => .bool b
  | .int i => .int i
  | .str x => .str x
  | v => .val v
theorem vD_is {K : PySem.W.Frag} {G : Hp} (v : V) : Is K G v (vD v) := by
  cases v <;> first | exact .non | exact .bl _ | exact .int _ | exact .str _ | exact .val _
def RunCs (X : Cx) (f : Value) (xs : List V) (σ : L2.St) (H : Hp) (Q : VK) : Prop := ∀ (pins : List (Addr × Obj)) (s : Shared) (us : List Value), Inv X pins σ H s → Vals xs us → wpAny (model X.prog X.w) X.A (call f us) (EP X pins σ Q) X.xe s
/-- where a def stands -/
def FdAt (K : PySem.W.Frag) (f : Addr) (fd : FuncData) : Prop := ∃ oc od osl, K.lookup f = some ⟨oc, od, .func fd, osl⟩
/-- a def at f that may be called with dvs its defaults that fill up -/
structure Callee (P : Program) (w : World) (K : PySem.W.Frag) (mg : Str → Option Value) (base : Heap) (f : Addr) (k : Nat) (ps : List Str) (dvs : List V) (sp : Sp) : Prop where
  ex : ∃ fd ds, FnG P w K mg base (L2.CX P w) k f fd ps sp ∧ Binds K fd ps ds ∧ Vals dvs ds ∧ FdAt K f fd
section
variable {X : Cx} {W : WX} {σ : L2.St} {H : Hp} {f : Addr} {k : Nat} {ps : List Str} {dvs : List V} {sp : Sp} {vs : List V} {Q : VK}
theorem run_cs (D : Callee X.prog X.w X.K X.mg X.base f k ps dvs sp) (hr : Room k X.A) (hg : X.A.guards = some []) (tk : Takes X W) (q : sp (vs ++ dvs) H Q (fun cls dx H' => W cls dx σ H')) : RunCs X (.ref f) vs σ H Q := fun pins s us I r => by
  obtain ⟨fd, dw, F, hb, hd, _⟩ := D.ex
  have r2 := r.append hd
  have hl : (us ++ dw).length = ps.length := r2.length.symm.trans (F.len _ _ _ _ q)
  refine wpAny_call (codeAny_mono (F.run X.A X.stack s H ⟨us, []⟩ (us ++ dw) (vs ++ dvs) Q _ hr hg I.env0 (hb s us I.kIn hl) r2 q) fun r' s' hq => ?_)
  match r', hq with
  | .error e, hq => exact passAt tk σ pins H s e s' I hq
  | .ok (.ret u), hq => exact I.after hq
end
/-- a call of data alone -/
def callP (Fn' : Fn) (n : Nat) (dvs : List V) (xs : List D) (env : Ev) : Rs T := if xs.length + dvs.length = n then (match Fn' ((xs ++ dvs.map vD).map .d) with
  | .ok t _ => .ok t env
  | .exc c fs _ => .exc c fs env
  | .stuck => .stuck) else .stuck
section
variable {X : Cx} {W : WX} {F : Fm} {ps : List V} {σ : L2.St} {G G0 H : Hp} {A : List Addr} {env : Ev} {k n : Nat} {dvs : List V} {vs : List V} {xs : List D} {Q : VK} {Fn' : Fn}
theorem isL_d {K : PySem.W.Frag} : ∀ {vs : List V} {xs : List D}, IsL K G vs xs → TIsL K G H vs (xs.map .d) []
  | _, _, .nil => .nil
  | _, _, .cons h t => TIsL.cons (A := []) (.d h) (isL_d t)
theorem mOk_d : ∀ (xs : List D), mOk (List.replicate xs.length false) (xs.map .d)
  | [] => trivial
  | _ :: xs => ⟨.inr rfl, mOk_d xs⟩
theorem maskd_d {α : Type} : ∀ (n : Nat) (vs : List α), maskd (List.replicate n false) vs = []
  | 0, vs => by cases vs <;> rfl
  | n + 1, [] => rfl
  | n + 1, _ :: vs => maskd_d n vs
theorem isL_vD {K : PySem.W.Frag} : ∀ (dvs : List V), IsL K G dvs (dvs.map vD)
  | [] => .nil
  | v :: dvs => .cons (vD_is v) (isL_vD dvs)
theorem sp_pure (I : EvIs X.K G H ps σ env A) (R : Rel F G H A) (i : IsL X.K G vs xs) (P : (callP Fn' n dvs xs env).post (fun t env' => OkO X F G H A Q t ∧ env' = env) (exP X W F ps G)) : spF X.K (List.replicate n false) Fn' (vs ++ dvs) H Q (fun cls dx H' => W cls dx σ H') := by
  unfold callP at P
  by_cases hl : xs.length + dvs.length = n
  · rw [if_pos hl] at P
    have i2 := i.app (isL_vD (K := X.K) (G := G) dvs)
    have hn : (xs ++ dvs.map vD).length = n := by rw [List.length_append, List.length_map]; exact hl
    have st := R.start (B := []) (fun b hb => by cases hb) .nil
    refine ⟨_, [], G, isL_d i2, hn ▸ mOk_d _, R.gh, .nil, (fun a ha => absurd ha (List.not_mem_nil)), ?_⟩
    cases q : Fn' ((xs ++ dvs.map vD).map .d) with
    | stuck => rw [q] at P; exact P.elim
    | ok t back =>
      rw [q] at P
      intro v G' H' A' B r t' tb
      rw [maskd_d] at tb
      cases tb
      obtain ⟨r2, s2, k2⟩ := Rel.back (B := []) (A := A) R r
      rw [List.append_nil] at r2
      exact P.1 v G' H' B s2 k2 t' r2
    | exc c fs back =>
      rw [q] at P
      intro cls dx G' H' A' r tb x
      rw [maskd_d] at tb
      cases tb
      obtain ⟨r2, s2, k2⟩ := Rel.back (B := []) (A := A) R r
      exact P cls dx σ G' H' A s2 (I.up s2 k2) r2 x
  · rw [if_neg hl] at P; exact P.elim
end
/-- a def of the module -/
structure Def1 (P : Program) (w : World) (K : PySem.W.Frag) (mg : Str → Option Value) (base : Heap) (x : Str) (k : Nat) (ps : List Str) (dvs : List V) (sp : Sp) : Prop where
  m : mg x = some (.ref (He.ga K x))
  kp : PySem.W.keepIn K (.ref (He.ga K x)) = true
  c : Callee P w K mg base (He.ga K x) k ps dvs sp
/-- a method -/
structure DefM (P : Program) (w : World) (K : PySem.W.Frag) (mg : Str → Option Value) (base : Heap) (C m : Str) (k : Nat) (ps : List Str) (dvs : List V) (sp : Sp) : Prop where
  cl : Cls K (He.ga K C)
  mt : Meth K (He.ga K C) m (He.ma K (He.ga K C) m)
  c : Callee P w K mg base (He.ma K (He.ga K C) m) k ps dvs sp
def dCallP (Fn' : Fn) (n : Nat) (dvs : List V) (ds : Ev → Rs (List D)) : DE := fun env => (ds env).bind fun xs env => callP Fn' n dvs xs env
section
variable {X : Cx} {W : WX} {e o : Expr} {es : List Expr} {pos p apos : Pos} {x m C : Str} {k n : Nat} {dvs : List V} {ps : List Str} {Fn' : Fn} {ds : Ev → Rs (List D)} {d : DE}
theorem callP_imp {F : Fm} {qs : List V} {σ : L2.St} {G G0 H : Hp} {A : List Addr} {env : Ev} {xs : List D} {Q : VK} (I : EvIs X.K G H qs σ env A) (R : Rel F G H A) (s : Same G0 G) (P : (callP Fn' n dvs xs env).post (okE X F qs σ G0 Q) (exP X W F qs G)) :
    (callP Fn' n dvs xs env).post (fun t env' => OkO X F G H A Q t ∧ env' = env) (exP X W F qs G) := by
  refine Rs.post.imp P (fun t env' e h => ?_) fun _ _ _ _ h => h
  unfold callP at e
  by_cases hl : xs.length + dvs.length = n
  · rw [if_pos hl] at e
    cases q : Fn' ((xs ++ dvs.map vD).map .d) with
    | stuck => rw [q] at e; cases e
    | exc c fs b => rw [q] at e; cases e
    | ok t' b =>
      rw [q] at e
      cases e
      exact ⟨okO_of I R s h, rfl⟩
  · rw [if_neg hl] at e; cases e
theorem SE.callP (tk : Takes X W) (hr : Room k X.A) (hgd : X.A.guards = some []) (D : Def1 X.prog X.w X.K X.mg X.base x k ps dvs (spF X.K (List.replicate n false) Fn')) (hg : Gl X x) (hdb : (x == ("__debug__" : Str)) = false) (he : starEach (e :: es) X.env = (false, eval e X.env) :: starEach es X.env) (hpl : (backTo pos (starEach es X.env)).any (·.1) = false)
    (ha : SA X W (e :: es) ds) : SE X W (.Call (.Name x p) (e :: es) [] pos) (dCallP Fn' n dvs ds) := fun F qs σ G H A Q env I R P => .of fun pins s J => by
  refine wpAny_Call_Name_kw (ld_glob J hg D.m (PySem.W.callWith_K (h₀ := X.base) J.ok.mod.kin D.kp (thn ((ha.seq (K1 := fun vs H1 => RunCs X (.ref (He.ga X.K x)) vs σ H1 Q) I R P ?_).r pos pins s J) fun us s1 ⟨vs, H1, I1, r, q⟩ => ⟨I1.kIn, q pins s1 us I1 r⟩) he hpl) hdb)
  intro xs env1 vs G1 H1 A1 s1 I1 i1 R1 P1
  exact run_cs D.c hr hgd tk (sp_pure I1 R1 i1 (callP_imp I1 R1 s1 P1))
theorem SE.call0 (tk : Takes X W) (hr : Room k X.A) (hgd : X.A.guards = some []) (D : Def1 X.prog X.w X.K X.mg X.base x k ps dvs (spF X.K (List.replicate n false) Fn')) (hg : Gl X x) (hdb : (x == ("__debug__" : Str)) = false) : SE X W (.Call (.Name x p) [] [] pos) (dCallP Fn' n dvs dNil) := fun F qs σ G H A Q env I R P => .of fun pins s J => by
  refine wpAny_Call_Name_kw (ld_glob J hg D.m (PySem.W.callWith_K0 J.kIn D.kp ?_) hdb)
  exact run_cs (vs := []) D.c hr hgd tk (sp_pure I R .nil (callP_imp I R (Same.refl G) P)) pins s [] J .nil
end
end Dn

namespace Dn
open PySem PySem.Spec PyProof.Rows L2
/-! ### what is walked -/
/-- J gives the items xs -/
structure Walked (K : PySem.W.Frag) (J : It) (G0 : Hp) (xs : List D) : Prop where
  go : ∀ F i G H A, i < xs.length → Rel F G H A → Same G0 G → J.go i H
  yl : ∀ F i x v G H H' A, xs[i]? = some x → Rel F G H A → Same G0 G → J.yld i H v H' → ∃ G', Same G G' ∧ Rel F G' H' A ∧ (∀ a ∈ A, H' a = H a) ∧ Is K G' v x
  st : ∀ F G H A, Rel F G H A → Same G0 G → J.stop xs.length H
def RunIt (X : Cx) (tg : Expr) (v : V) (H : Hp) (R : It → Hp → Prop) : Prop := ∀ (pins : List (Addr × Obj)) (s : Shared) (σ : L2.St) (u : Value), Inv X pins σ H s → RelV v u → wpAny (model X.prog X.w) X.A (pyIter u) (PIE X pins σ tg R) X.xe s
structure RunIter (X : Cx) (tg iter : Expr) (σ : L2.St) (H : Hp) (R : It → Hp → Prop) : Prop where of ::
  r : ∀ (pins : List (Addr × Obj)) (s : Shared), Inv X pins σ H s → wpAny (model X.prog X.w) X.A (eval iter X.env) (fun v s1 => wpAny (model X.prog X.w) X.A (pyIter v) (PIE X pins σ tg R) X.xe s1) X.xe s
theorem pi_run {X : Cx} {tg iter : Expr} : PI X tg iter (RunIter X tg iter) := ⟨fun pins s _ _ _ I h => h.r pins s I⟩
theorem PI.go {X : Cx} {tg iter : Expr} {wi : TI} {σ : L2.St} {H : Hp} {Q : It → Hp → Prop} (h : PI X tg iter wi) (q : wi σ H Q) : RunIter X tg iter σ H Q := ⟨fun pins s I => h.run pins s σ H Q I q⟩
/-- iter's items -/
def SI (X : Cx) (W : WX) (tg iter : Expr) (d : Ev → Rs (List D)) : Prop :=
  ∀ F ps σ G H A Q env, EvIs X.K G H ps σ env A → Rel F G H A → (d env).post (fun xs env' => ∀ J G' H' A', Same G G' → EvIs X.K G' H' ps σ env' A' → Rel F G' H' A' → Walked X.K J G' xs → Q J H') (exP X W F ps G) → RunIter X tg iter σ H Q
theorem Walked.list {K : PySem.W.Frag} {a : Addr} {vs : List V} {xs : List D} {G0 : Hp} (ha : G0 a = some (.lst vs)) (r : IsL K G0 vs xs) : Walked K (Itl K a) G0 xs where
  go := fun F i G H A hi f s => by
    obtain ⟨v, ev, p⟩ := r.at (i := i) (List.getElem?_eq_getElem hi)
    exact ⟨vs, v, SqL.of (f.gh _ _ (s _ _ ha)), ev⟩
  yl := fun F i x v G H H' A hi f s y => by
    obtain ⟨e, y⟩ := y
    subst e
    obtain ⟨d, ed, p⟩ := r.get (y vs (SqL.of (f.gh _ _ (s _ _ ha))))
    rw [hi] at ed
    cases ed
    exact ⟨G, Same.refl G, f, fun _ _ => rfl, p.up s⟩
  st := fun F G H A f s => ⟨vs, SqL.of (f.gh _ _ (s _ _ ha)), by rw [r.length]; exact Nat.le_refl _⟩
theorem Walked.tup {K : PySem.W.Frag} {a : Addr} {vs : List V} {xs : List D} {G0 : Hp} (ha : G0 a = some (.tup vs)) (r : IsL K G0 vs xs) : Walked K (Itt K a) G0 xs where
  go := fun F i G H A hi f s => by
    obtain ⟨v, ev, p⟩ := r.at (i := i) (List.getElem?_eq_getElem hi)
    exact ⟨vs, v, SqT.of (f.gh _ _ (s _ _ ha)), ev⟩
  yl := fun F i x v G H H' A hi f s y => by
    obtain ⟨e, y⟩ := y
    subst e
    obtain ⟨d, ed, p⟩ := r.get (y vs (SqT.of (f.gh _ _ (s _ _ ha))))
    rw [hi] at ed
    cases ed
    exact ⟨G, Same.refl G, f, fun _ _ => rfl, p.up s⟩
  st := fun F G H A f s => ⟨vs, SqT.of (f.gh _ _ (s _ _ ha)), by rw [r.length]; exact Nat.le_refl _⟩
def strItems (z : Str) : List D := z.cps.toList.map fun c => .str ⟨#[c]⟩
theorem Walked.str {K : PySem.W.Frag} {z : Str} {G0 : Hp} : Walked K (Its z) G0 (strItems z) where
  go := fun F i G H A hi f s => by
    have : i < z.cps.size := by simpa [strItems] using hi
    exact this
  yl := fun F i x v G H H' A hi f s y => by
    obtain ⟨e, c, ec, rfl⟩ := y
    subst e
    refine ⟨G, Same.refl G, f, fun _ _ => rfl, ?_⟩
    have : z.cps.toList[i]? = some c := by simpa using ec
    unfold strItems at hi
    rw [List.getElem?_map, this] at hi
    cases hi
    exact .str _
  st := fun F G H A f s => by
    have : (strItems z).length = z.cps.size := by simp [strItems]
    rw [this]; exact Nat.le_refl _
def kD : Key → D
  | .inl i => .int i
  | .inr x => .str x
theorem kD_is {K : PySem.W.Frag} {G : Hp} (k : Key) : Is K G (kV k) (kD k) := by
  cases k with
  | inl i => exact .int i
  | inr x => exact .str x
theorem Walked.keys {K : PySem.W.Frag} {a : Addr} {od : Obj} {kv : List (Key × V)} {G0 : Hp} (ha : G0 a = some (.frz od (.dK kv))) : Walked K (Itk a od kv) G0 ((kv.map (·.1)).map kD) where
  go := fun F i G H A hi f s => ⟨f.gh _ _ (s _ _ ha), by simpa using hi⟩
  yl := fun F i x v G H H' A hi f s y => by
    obtain ⟨e, k, u, ek, rfl⟩ := y
    subst e
    refine ⟨G, Same.refl G, f, fun _ _ => rfl, ?_⟩
    rw [List.getElem?_map, List.getElem?_map, ek] at hi
    cases hi
    exact kD_is k
  st := fun F G H A f s => ⟨f.gh _ _ (s _ _ ha), by simp⟩
theorem Walked.vals {K : PySem.W.Frag} {a : Addr} {od : Obj} {kv : List (Key × V)} {xs : List D} {G0 : Hp} (ha : G0 a = some (.frz od (.dK kv))) (r : IsL K G0 (kv.map (·.2)) xs) : Walked K (Itd a od kv) G0 xs where
  go := fun F i G H A hi f s => ⟨f.gh _ _ (s _ _ ha), by have := r.length; rw [List.length_map] at this; omega⟩
  yl := fun F i x v G H H' A hi f s y => by
    obtain ⟨e, k, ek⟩ := y
    subst e
    refine ⟨G, Same.refl G, f, fun _ _ => rfl, ?_⟩
    obtain ⟨d, ed, p⟩ := r.get (i := i) (v := v) (by rw [List.getElem?_map, ek]; rfl)
    rw [hi] at ed
    cases ed
    exact p.up s
  st := fun F G H A f s => ⟨f.gh _ _ (s _ _ ha), by have := r.length; rw [List.length_map] at this; omega⟩
def zipKD : List Key → List D → List D
  | k :: ks, d :: ds => .tup [kD k, d] :: zipKD ks ds
  | _, _ => []
theorem zipKD_get {K : PySem.W.Frag} {G : Hp} : ∀ {kv : List (Key × V)} {ds : List D} {i : Nat} {k : Key} {v : V} {x : D}, IsL K G (kv.map (·.2)) ds → kv[i]? = some (k, v) → (zipKD (kv.map (·.1)) ds)[i]? = some x → ∃ d, x = .tup [kD k, d] ∧ Is K G v d
  | [], _, i, k, v, x, h, e, e2 => by simp at e
  | p :: kv, ds, i, k, v, x, h, e, e2 => by
    cases h with
    | cons h t =>
      cases i with
      | zero =>
        simp at e
        subst e
        rw [List.map_cons] at e2
        unfold zipKD at e2
        simp at e2
        exact ⟨_, e2.symm, h⟩
      | succ i =>
        rw [List.map_cons] at e2
        unfold zipKD at e2
        exact zipKD_get t (by simpa using e) (by simpa using e2)
theorem zipKD_len : ∀ {ks : List Key} {ds : List D}, ks.length = ds.length → (zipKD ks ds).length = ks.length
  | [], [], _ => rfl
  | [], _ :: _, h => by cases h
  | _ :: _, [], h => by cases h
  | _ :: ks, _ :: ds, h => by
    unfold zipKD
    rw [List.length_cons, List.length_cons, zipKD_len (by simpa using h)]
theorem Walked.items {K : PySem.W.Frag} {a : Addr} {od : Obj} {kv : List (Key × V)} {xs : List D} {G0 : Hp} (ha : G0 a = some (.frz od (.dK kv))) (r : IsL K G0 (kv.map (·.2)) xs) : Walked K (Iti a od kv) G0 (zipKD (kv.map (·.1)) xs) where
  go := fun F i G H A hi f s => ⟨f.gh _ _ (s _ _ ha), by
    have := r.length
    rw [List.length_map] at this
    rw [zipKD_len (by rw [List.length_map]; exact this), List.length_map] at hi; exact hi⟩
  yl := fun F i x v G H H' A hi f s y => by
    obtain ⟨T, k, u, e1, rfl, hT, rfl⟩ := y
    obtain ⟨d, rfl, p⟩ := zipKD_get r e1 hi
    have s2 := Same.new (o := .tup [kV k, u]) f.gh hT
    exact ⟨_, s2, f.new hT, upd_off (f.ne hT), .tup upd_same (.cons (kD_is k) (.cons ((p.up s).up s2) .nil))⟩
  st := fun F G H A f s => ⟨f.gh _ _ (s _ _ ha), by
    have := r.length
    rw [List.length_map] at this
    rw [zipKD_len (by rw [List.length_map]; exact this), List.length_map]; exact Nat.le_refl _⟩
def rngL (lo : Int) : Nat → List D
  | 0 => []
  | n + 1 => .int lo :: rngL (lo + 1) n
theorem rngL_len : ∀ (lo : Int) (n : Nat), (rngL lo n).length = n
  | lo, 0 => rfl
  | lo, n + 1 => by unfold rngL; rw [List.length_cons, rngL_len]
theorem rngL_get : ∀ (lo : Int) (n i : Nat), i < n → (rngL lo n)[i]? = some (.int (lo + i))
  | lo, 0, i, h => by omega
  | lo, n + 1, 0, h => by unfold rngL; simp
  | lo, n + 1, i + 1, h => by
    unfold rngL
    rw [List.getElem?_cons_succ, rngL_get (lo + 1) n i (by omega)]
    congr 2
    omega
theorem Walked.rng {K : PySem.W.Frag} {lo : Int} {n : Nat} {G0 : Hp} : Walked K (Itr lo n) G0 (rngL lo n) where
  go := fun F i G H A hi _ _ => by rw [rngL_len] at hi; exact hi
  yl := fun F i x v G H H' A hi f s y => by
    obtain ⟨e, e2⟩ := y
    subst e e2
    have hl : i < n := by have := (List.getElem?_eq_some_iff.mp hi).1; rwa [rngL_len] at this
    rw [rngL_get lo n i hl] at hi
    cases hi
    exact ⟨G, Same.refl G, f, fun _ _ => rfl, .int _⟩
  st := fun F G H A f s => by rw [rngL_len]; exact Nat.le_refl _
def rngC (lo c : Int) : Nat → List D
  | 0 => []
  | n + 1 => .int lo :: rngC (lo + c) c n
theorem rngC_len : ∀ (lo c : Int) (n : Nat), (rngC lo c n).length = n
  | lo, c, 0 => rfl
  | lo, c, n + 1 => by unfold rngC; rw [List.length_cons, rngC_len]
theorem rngC_get : ∀ (lo c : Int) (n i : Nat), i < n → (rngC lo c n)[i]? = some (.int (lo + i * c))
  | lo, c, 0, i, h => by omega
  | lo, c, n + 1, 0, h => by unfold rngC; simp
  | lo, c, n + 1, i + 1, h => by
    unfold rngC
    rw [List.getElem?_cons_succ, rngC_get (lo + c) c n i (by omega)]
    congr 2
    rw [Int.add_assoc]
    congr 1
    rw [Int.natCast_add, Int.add_mul]
    omega
/-- the items of data -/
def itemsD : D → Option (List D)
  | .list ds => some ds
  | .tup ds => some ds
  | .str z => some (strItems z)
  | .dict ks _ => some (ks.map kD)
  | _ => none
def ofL {α : Type} (o : Option α) (env : Ev) : Rs α := match o with
  | some t => .ok t env
  | none => .stuck
def dIt (d : DE) : Ev → Rs (List D) := fun env => (d env).bindD fun x env => ofL (itemsD x) env
section
variable {X : Cx} {W : WX} {tg e e2 e3 : Expr} {es : List Expr} {d d2 d3 : DE} {pos p : Pos} {H : Hp} {Q : It → Hp → Prop}
theorem it_list {a : Addr} {vs : List V} (h : H a = some (.lst vs)) (q : Q (Itl X.K a) H) : RunIt X tg (.ref a) H Q := fun pins s σ u I r => by
  cases r
  obtain ⟨its, rv, p, hz⟩ := I.list (SqL.of h)
  refine wpAny_pyIter_list p.isList ?_
  refine ⟨s.heap.objs.size, [s.heap.objs.size], _, _, H, rfl, I.kept (t' := s.toks) fun b o e => Heap.get?_push_of_some _ e, turn_list a _, ⟨_, Heap.get?_push_size _ rfl, rfl, rfl⟩, fun b hb => ?_, q⟩
  have e : b = s.heap.objs.size := by simpa using hb
  subst e
  exact I.fpOk (Nat.le_refl _) (I.hok.fresh (Nat.le_refl _))
theorem it_tup {a : Addr} {vs : List V} (h : H a = some (.tup vs)) (q : Q (Itt X.K a) H) : RunIt X tg (.ref a) H Q := fun pins s σ u I r => by
  cases r
  obtain ⟨its, rv, p, hz⟩ := I.tuple (SqT.of h)
  refine wpAny_pyIter_tuple (show s.heap.IsTuple a its.toArray from p) ?_
  refine ⟨s.heap.objs.size, [s.heap.objs.size], _, _, H, rfl, I.kept (t' := s.toks) fun b o e => Heap.get?_push_of_some _ e, turn_tuple a _, ⟨_, Heap.get?_push_size _ rfl, rfl, rfl⟩, fun b hb => ?_, q⟩
  have e : b = s.heap.objs.size := by simpa using hb
  subst e
  exact I.fpOk (Nat.le_refl _) (I.hok.fresh (Nat.le_refl _))
theorem it_str {x : Str} (q : Q (Its x) H) : RunIt X tg (.str x) H Q := fun pins s σ u I r => by
  obtain ⟨t, rfl⟩ := r
  cases ha : x.cps.all (· < 128)
  · exact wpAny_pyIter_wide ha (pi_one (tk := s.toks) I _ (turn_str _ x t "str_iterator" (.inr rfl)) ⟨_, Heap.get?_push_size _ rfl, rfl, rfl⟩ q)
  · exact wpAny_pyIter_ascii ha (pi_one (tk := s.toks) I _ (turn_str _ x t "str_ascii_iterator" (.inl rfl)) ⟨_, Heap.get?_push_size _ rfl, rfl, rfl⟩ q)
theorem it_keys {a : Addr} {od : Obj} {kv : List (Key × V)} (hd : H a = some (.frz od (.dK kv))) (q : Q (Itk a od kv) H) : RunIt X tg (.ref a) H Q := fun pins s σ u I r => by
  cases r
  obtain ⟨hs, hgd, hx, es, ep, vs, hdt, hsz, kv, hm⟩ := I.frzK hd
  refine iter_keys hs hgd hx hdt (pi_one (tk := s.toks) I _ (turn_keys _ hdt) ⟨_, Heap.get?_push_size _ rfl, rfl, ?_⟩ q)
  rw [hsz] <;> rfl
theorem SI.data (h : SE X W e d) : SI X W tg e (dIt d) := fun F ps σ G H A Q env I R P => .of fun pins s J => by
  have := h.seqD (K1 := fun v H1 => RunIt X tg v H1 Q) I R P (fun x env1 v G1 H1 A1 s1 I1 i1 R1 P1 => by
    cases q : itemsD x with
    | none => rw [q] at P1; exact P1.elim
    | some xs =>
      rw [q] at P1
      have P1 : ∀ J G' H' A', Same G G' → EvIs X.K G' H' ps σ env1 A' → Rel F G' H' A' → Walked X.K J G' xs → Q J H' := P1
      cases x with
      | list ds =>
        cases q
        obtain ⟨a, vs, rfl, ha, r⟩ := i1.listE
        exact it_list (R1.gh _ _ ha) (P1 _ G1 H1 A1 s1 I1 R1 (.list ha r))
      | tup ds =>
        cases q
        obtain ⟨a, vs, rfl, ha, r⟩ := i1.tupE
        exact it_tup (R1.gh _ _ ha) (P1 _ G1 H1 A1 s1 I1 R1 (.tup ha r))
      | str z =>
        cases q
        rw [i1.strE]
        exact it_str (P1 _ G1 H1 A1 s1 I1 R1 .str)
      | dict ks ds =>
        cases q
        obtain ⟨a, od, kv, rfl, ha, hk, r⟩ := i1.dictE
        subst hk
        exact it_keys (R1.gh _ _ ha) (P1 _ G1 H1 A1 s1 I1 R1 (.keys ha))
      | _ => cases q)
  exact thn (this.r pins s J) fun u s1 ⟨v, H1, J1, r, q⟩ => q pins s1 σ u J1 r
def rngOk (i : Int) : Bool := decide (-(2 ^ 62) ≤ i ∧ i < 2 ^ 62)
def rng1D : List D → Option (List D)
  | [.int j] => if rngOk j = true then some (rngL 0 j.toNat) else none
  | _ => none
def rng2D : List D → Option (List D)
  | [.int i, .int j] => if (rngOk i && rngOk j) = true then some (rngL i (j - i).toNat) else none
  | _ => none
def rgOk (i j c : Int) : Bool := decide (c ≠ 0) && decide (c.natAbs < 1073741824 ∧ 0 ≤ Builtin.Range.rangeSize i j c) && Builtin.Range.small i j c
def rng3D : List D → Option (List D)
  | [.int i, .int j, .int c] => if rgOk i j c = true then some (rngC i c (Builtin.Range.rangeSize i j c).toNat) else none
  | _ => none
def dRng (f : List D → Option (List D)) (ds : Ev → Rs (List D)) : Ev → Rs (List D) := fun env => (ds env).bind fun xs env => ofL (f xs) env
theorem SI.rng1 {ds : Ev → Rs (List D)} (hg : Gl X "range") (hm : X.mg "range" = none) (hs : starEach [e] X.env = [(false, eval e X.env)]) (h : SA X W [e] ds) : SI X W tg (.Call (.Name "range" p) [e] [] pos) (dRng rng1D ds) := fun F ps σ G H A Q env I R P =>
  PI.go (pi_range1 hg hm pa_run hs) (h.seq I R P fun xs env1 vs G1 H1 A1 s1 I1 i1 R1 P1 => by
    cases q : rng1D xs with
    | none => rw [q] at P1; exact P1.elim
    | some ys =>
      rw [q] at P1
      have P1 : ∀ J G' H' A', Same G G' → EvIs X.K G' H' ps σ env1 A' → Rel F G' H' A' → Walked X.K J G' ys → Q J H' := P1
      unfold rng1D at q
      split at q
      · rename_i j
        by_cases hz : rngOk j = true
        · rw [if_pos hz] at q
          cases q
          cases i1 with
          | cons h1 t =>
            cases t
            have hz := of_decide_eq_true hz
            exact ⟨j, by rw [h1.intE], hz.1, hz.2, P1 _ G1 H1 A1 s1 I1 R1 .rng⟩
        · rw [if_neg hz] at q; cases q
      · cases q)
theorem SI.rng2 {ds : Ev → Rs (List D)} (hg : Gl X "range") (hm : X.mg "range" = none) (hs : starEach [e, e2] X.env = [(false, eval e X.env), (false, eval e2 X.env)]) (hs2 : starEach [e2] X.env = [(false, eval e2 X.env)]) (h : SA X W [e, e2] ds) : SI X W tg (.Call (.Name "range" p) [e, e2] [] pos) (dRng rng2D ds) := fun F ps σ G H A Q env I R P =>
  PI.go (pi_range2 hg hm pa_run hs hs2) (h.seq I R P fun xs env1 vs G1 H1 A1 s1 I1 i1 R1 P1 => by
    cases q : rng2D xs with
    | none => rw [q] at P1; exact P1.elim
    | some ys =>
      rw [q] at P1
      have P1 : ∀ J G' H' A', Same G G' → EvIs X.K G' H' ps σ env1 A' → Rel F G' H' A' → Walked X.K J G' ys → Q J H' := P1
      unfold rng2D at q
      split at q
      · rename_i i j
        by_cases hz : (rngOk i && rngOk j) = true
        · rw [if_pos hz] at q
          cases q
          cases i1 with
          | cons h1 t =>
            cases t with
            | cons h2 t =>
              cases t
              obtain ⟨z1, z2⟩ := (Bool.and_eq_true _ _).mp hz
              have z1 := of_decide_eq_true z1
              have z2 := of_decide_eq_true z2
              exact ⟨i, j, by rw [h1.intE, h2.intE], ⟨z1.1, z1.2, z2.1, z2.2⟩, P1 _ G1 H1 A1 s1 I1 R1 .rng⟩
        · rw [if_neg hz] at q; cases q
      · cases q)
theorem Walked.rngC {K : PySem.W.Frag} {lo c : Int} {n : Nat} {G0 : Hp} : Walked K (Itc lo c n) G0 (Dn.rngC lo c n) where
  go := fun F i G H A hi _ _ => by rw [rngC_len] at hi; exact hi
  yl := fun F i x v G H H' A hi f s y => by
    obtain ⟨e, e2⟩ := y
    subst e e2
    have hl : i < n := by have := (List.getElem?_eq_some_iff.mp hi).1; rwa [rngC_len] at this
    rw [rngC_get lo c n i hl] at hi
    cases hi
    exact ⟨G, Same.refl G, f, fun _ _ => rfl, .int _⟩
  st := fun F G H A f s => by rw [rngC_len]; exact Nat.le_refl _
theorem SI.rng3 {ds : Ev → Rs (List D)} (hg : Gl X "range") (hm : X.mg "range" = none) (hs : starEach [e, e2, e3] X.env = (false, eval e X.env) :: starEach [e2, e3] X.env) (hpl : (backTo pos (starEach [e2, e3] X.env)).any (·.1) = false) (h : SA X W [e, e2, e3] ds) : SI X W tg (.Call (.Name "range" p) [e, e2, e3] [] pos) (dRng rng3D ds) := fun F ps σ G H A Q env I R P =>
  PI.go (pi_range3 hg hm pa_run hs hpl) (h.seq I R P fun xs env1 vs G1 H1 A1 s1 I1 i1 R1 P1 => by
    cases q : rng3D xs with
    | none => rw [q] at P1; exact P1.elim
    | some ys =>
      rw [q] at P1
      have P1 : ∀ J G' H' A', Same G G' → EvIs X.K G' H' ps σ env1 A' → Rel F G' H' A' → Walked X.K J G' ys → Q J H' := P1
      unfold rng3D at q
      split at q
      · rename_i i j c
        by_cases hz : rgOk i j c = true
        · rw [if_pos hz] at q
          cases q
          cases i1 with
          | cons h1 t =>
            cases t with
            | cons h2 t =>
              cases t with
              | cons h3 t =>
                cases t
                obtain ⟨z1, z2⟩ := (Bool.and_eq_true _ _).mp hz
                obtain ⟨z1, z3⟩ := (Bool.and_eq_true _ _).mp z1
                exact ⟨i, j, c, _, by rw [h1.intE, h2.intE, h3.intE], ⟨of_decide_eq_true z1, (of_decide_eq_true z3).1, z2, (Int.toNat_of_nonneg (of_decide_eq_true z3).2).symm⟩, P1 _ G1 H1 A1 s1 I1 R1 .rngC⟩
        · rw [if_neg hz] at q; cases q
      · cases q)
/-- d.items(), d.values() -/
def itmD : D → Option (List D)
  | .dict ks ds => some (zipKD ks ds)
  | _ => none
def valD : D → Option (List D)
  | .dict _ ds => some ds
  | _ => none
def dItD (f : D → Option (List D)) (d : DE) : Ev → Rs (List D) := fun env => (d env).bindD fun x env => ofL (f x) env
theorem SI.items {elts : List Expr} {kk : Nat} {tpos apos cpos : Pos} (hb : attributeBase e "items" X.env (eval e X.env) = eval e X.env) (hl : (apos.endLine == cpos.line) = true) (h : SE X W e d) : SI X W (.Tuple elts kk tpos) (.Call (.Attribute e "items" apos) [] [] cpos) (dItD itmD d) := fun F ps σ G H A Q env I R P =>
  PI.go (pi_items pe_run hb hl) (h.seqD I R P fun x env1 v G1 H1 A1 s1 I1 i1 R1 P1 => by
    cases x with
    | dict ks ds =>
      obtain ⟨a, od, kv, rfl, ha, hk, r⟩ := i1.dictE
      subst hk
      exact ⟨a, od, kv, rfl, R1.gh _ _ ha, P1 _ G1 H1 A1 s1 I1 R1 (.items ha r)⟩
    | _ => exact P1.elim)
theorem SI.values {apos cpos : Pos} (hb : attributeBase e "values" X.env (eval e X.env) = eval e X.env) (hl : (apos.endLine == cpos.line) = true) (h : SE X W e d) : SI X W tg (.Call (.Attribute e "values" apos) [] [] cpos) (dItD valD d) := fun F ps σ G H A Q env I R P =>
  PI.go (pi_values pe_run hb hl) (h.seqD I R P fun x env1 v G1 H1 A1 s1 I1 i1 R1 P1 => by
    cases x with
    | dict ks ds =>
      obtain ⟨a, od, kv, rfl, ha, hk, r⟩ := i1.dictE
      subst hk
      exact ⟨a, od, kv, rfl, R1.gh _ _ ha, P1 _ G1 H1 A1 s1 I1 R1 (.vals ha r)⟩
    | _ => exact P1.elim)
def enumD : Int → List D → List D
  | _, [] => []
  | i, d :: ds => .tup [.int i, d] :: enumD (i + 1) ds
theorem enumD_len : ∀ (i : Int) (ds : List D), (enumD i ds).length = ds.length
  | i, [] => rfl
  | i, d :: ds => by unfold enumD; rw [List.length_cons, List.length_cons, enumD_len]
theorem enumD_get : ∀ (lo : Int) (ds : List D) (i : Nat) (d : D), ds[i]? = some d → (enumD lo ds)[i]? = some (.tup [.int (lo + i), d])
  | lo, [], i, d, h => by simp at h
  | lo, x :: ds, 0, d, h => by simp at h; subst h; unfold enumD; simp
  | lo, x :: ds, i + 1, d, h => by
    unfold enumD
    rw [List.getElem?_cons_succ, enumD_get (lo + 1) ds i d (by simpa using h)]
    congr 4
    omega
theorem Walked.enum {K : PySem.W.Frag} {a : Addr} {vs : List V} {xs : List D} {G0 : Hp} (ha : G0 a = some (.lst vs)) (r : IsL K G0 vs xs) : Walked K (Ite K a) G0 (enumD 0 xs) where
  go := fun F i G H A hi f s => by
    rw [enumD_len] at hi
    obtain ⟨v, ev, p⟩ := r.at (i := i) (List.getElem?_eq_getElem hi)
    exact ⟨vs, v, SqL.of (f.gh _ _ (s _ _ ha)), ev⟩
  yl := fun F i x v G H H' A hi f s y => by
    obtain ⟨T, u, rfl, hT, rfl, y⟩ := y
    obtain ⟨d, ed, p⟩ := r.get (y vs (SqL.of (f.gh _ _ (s _ _ ha))))
    rw [enumD_get 0 xs i d ed] at hi
    cases hi
    have s2 := Same.new (o := .tup [.int (i : Nat), u]) f.gh hT
    refine ⟨_, s2, f.new hT, upd_off (f.ne hT), .tup upd_same (.cons ?_ (.cons ((p.up s).up s2) .nil))⟩
    rw [Int.zero_add]
    exact .int _
  st := fun F G H A f s => ⟨vs, SqL.of (f.gh _ _ (s _ _ ha)), by rw [enumD_len, r.length]; exact Nat.le_refl _⟩
def enmD : List D → Option (List D)
  | [.list ds] => some (enumD 0 ds)
  | _ => none
theorem SI.enum {elts : List Expr} {kk : Nat} {tpos : Pos} {ds : Ev → Rs (List D)} (hg : Gl X "enumerate") (hm : X.mg "enumerate" = none) (hs : starEach [e] X.env = [(false, eval e X.env)]) (h : SA X W [e] ds) : SI X W (.Tuple elts kk tpos) (.Call (.Name "enumerate" p) [e] [] pos) (dRng enmD ds) := fun F ps σ G H A Q env I R P =>
  PI.go (pi_enum hg hm pa_run hs) (h.seq I R P fun xs env1 vs G1 H1 A1 s1 I1 i1 R1 P1 => by
    cases q : enmD xs with
    | none => rw [q] at P1; exact P1.elim
    | some ys =>
      rw [q] at P1
      have P1 : ∀ J G' H' A', Same G G' → EvIs X.K G' H' ps σ env1 A' → Rel F G' H' A' → Walked X.K J G' ys → Q J H' := P1
      unfold enmD at q
      split at q
      · rename_i ds'
        cases q
        cases i1 with
        | cons h1 t =>
          cases t
          obtain ⟨a, ws, rfl, ha, r⟩ := h1.listE
          exact ⟨a, ws, rfl, SqL.of (R1.gh _ _ ha), P1 _ G1 H1 A1 s1 I1 R1 (.enum ha r)⟩
      · cases q)
end
/-! ### for -/
def forL (g : D → Ev → Option Ev) (b : DS) : List D → Ev → Rs Fw
  | [], env => .ok .nx env
  | x :: xs, env => match g x env with
    | none => .stuck
    | some env1 => match b env1 with
      | .ok .nx env2 => forL g b xs env2
      | .ok .ct env2 => forL g b xs env2
      | .ok .bk env2 => .ok .nx env2
      | r => r
def dFor (it : Ev → Rs (List D)) (g : D → Ev → Option Ev) (b : DS) : DS := fun env => (it env).bind fun xs env => forL g b xs env
section
variable {X : Cx} {W : WX} {tg e e2 e3 : Expr} {es : List Expr} {d d2 d3 : DE} {pos p : Pos} {body : List Stmt} {b : DS} {g : D → Ev → Option Ev} {it : Ev → Rs (List D)}
theorem SS.for (po : PassesOwn (model X.prog X.w) X.A X.env X.xe) (hc : X.calm = true) (hs : ∀ x, foldedSetIterable e X.env x = pure x) (hi : SI X W tg e it) (hg : SG X tg g) (hb : SB X W body b) : SS X W (.For tg e body [] pos) (dFor it g b) := fun F ps σ G H A D env I R P => by
  refine PS.go (ps_for po hc pi_run pg_run pb_run hs) ?_
  refine hi F ps σ G H A _ env I R ?_
  unfold dFor at P
  cases q0 : it env with
  | stuck => rw [q0] at P; exact P.elim
  | exc c fs env1 => rw [q0] at P; exact P
  | ok xs env1 =>
    rw [q0] at P
    have P : (forL g b xs env1).post (okS X F ps D G) (exP X W F ps G) := P
    intro J G1 H1 A1 s1 I1 R1 w
    refine ⟨fun i m σ H => m = xs.length - i ∧ i ≤ xs.length ∧ ∃ G2 A2 env2, Same G1 G2 ∧ EvIs X.K G2 H ps σ env2 A2 ∧ Rel F G2 H A2 ∧ (forL g b (xs.drop i) env2).post (okS X F ps D G) (exP X W F ps G), ⟨xs.length, by simp, Nat.zero_le _, G1, A1, env1, Same.refl G1, I1, R1, by simpa using P⟩, ?_⟩
    rintro i m σ2 H2 ⟨rfl, hi2, G2, A2, env2, s2, I2, R2, P2⟩
    by_cases hl : i < xs.length
    · refine .inr ⟨w.go F i G2 H2 A2 hl R2 s2, fun σ' H' => ∃ G3 A3 env3, Same G1 G3 ∧ EvIs X.K G3 H' ps σ' env3 A3 ∧ Rel F G3 H' A3 ∧ (forL g b (xs.drop (i + 1)) env3).post (okS X F ps D G) (exP X W F ps G), fun σ' H' ⟨G3, A3, env3, z⟩ => ⟨xs.length - (i + 1), by omega, rfl, hl, G3, A3, env3, z⟩, fun v H3 y => ?_⟩
      obtain ⟨G3, s3, R3, k3, i3⟩ := w.yl F i _ v G2 H2 H3 A2 (List.getElem?_eq_getElem hl) R2 s2 y
      have e : xs.drop i = xs[i] :: xs.drop (i + 1) := List.drop_eq_getElem_cons hl
      rw [e] at P2
      unfold forL at P2
      cases q1 : g xs[i] env2 with
      | none => rw [q1] at P2; exact P2.elim
      | some env3 =>
        rw [q1] at P2
        dsimp only at P2
        refine hg F ps σ2 G3 H3 A2 v _ env2 env3 _ (I2.up s3 k3) R3 i3 q1 fun σ4 A4 I4 R4 => ?_
        refine hb F ps σ4 G3 H3 A4 _ env3 I4 R4 ?_
        have s13 : Same G1 G3 := s2.trans s3
        cases q2 : b env3 with
        | stuck => rw [q2] at P2; exact P2.elim
        | exc c fs env4 => rw [q2] at P2; exact exP.up (s1.trans s13) P2
        | ok fw env4 =>
          rw [q2] at P2
          cases fw with
          | nx => exact fun σ' G' H' A' s' I' R' => ⟨G', A', env4, s13.trans s', I', R', P2⟩
          | ct => exact fun σ' G' H' A' s' I' R' => ⟨G', A', env4, s13.trans s', I', R', P2⟩
          | bk => exact fun σ' G' H' A' s' I' R' => P2 σ' G' H' A' ((s1.trans s13).trans s') I' R'
          | rt t => exact fun v' σ' G' H' A' B s' I' i' R' => P2 v' σ' G' H' A' B ((s1.trans s13).trans s') I' i' R'
    · have e : i = xs.length := by omega
      subst e
      rw [List.drop_length] at P2
      exact .inl ⟨w.st F G2 H2 A2 R2 s2, P2 σ2 G2 H2 A2 (s1.trans s2) I2 R2⟩
end
/-! ### while -/
def loopN (c : Ev → Rs Bool) (b : DS) : Nat → Ev → Option (Rs Fw)
  | 0, _ => none
  | n + 1, env => match c env with
    | .ok true env1 => match b env1 with
      | .ok .nx env2 => loopN c b n env2
      | .ok .ct env2 => loopN c b n env2
      | .ok .bk env2 => some (.ok .nx env2)
      | r => some r
    | .ok false env1 => some (.ok .nx env1)
    | .exc k fs env1 => some (.exc k fs env1)
    | .stuck => some .stuck
theorem loopN_more {c : Ev → Rs Bool} {b : DS} {r : Rs Fw} : ∀ {n : Nat} {env : Ev}, loopN c b n env = some r → loopN c b (n + 1) env = some r
  | 0, env, h => by cases h
  | n + 1, env, h => by
    unfold loopN at h
    unfold loopN
    cases q : c env with
    | stuck => rw [q] at h; exact h
    | exc k fs env1 => rw [q] at h; exact h
    | ok t env1 =>
      rw [q] at h
      cases t with
      | false => exact h
      | true =>
        dsimp only at h ⊢
        cases q2 : b env1 with
        | stuck => rw [q2] at h; exact h
        | exc k fs env2 => rw [q2] at h; exact h
        | ok w env2 =>
          rw [q2] at h
          cases w with
          | nx => exact loopN_more (n := n) h
          | ct => exact loopN_more (n := n) h
          | bk => exact h
          | rt t => exact h
theorem loopN_le {c : Ev → Rs Bool} {b : DS} {r : Rs Fw} {n : Nat} {env : Ev} (h : loopN c b n env = some r) : ∀ k, loopN c b (n + k) env = some r
  | 0 => h
  | k + 1 => loopN_more (loopN_le h k)
open Classical in
noncomputable def dWhile (c : Ev → Rs Bool) (b : DS) : DS := fun env => if h : ∃ r n, loopN c b n env = some r then h.choose else .stuck
theorem dWhile_eq {c : Ev → Rs Bool} {b : DS} {r : Rs Fw} {n : Nat} {env : Ev} (h : loopN c b n env = some r) : dWhile c b env = r := by
  unfold dWhile
  have ex : ∃ r n, loopN c b n env = some r := ⟨r, n, h⟩
  rw [dif_pos ex]
  obtain ⟨m, hm⟩ := ex.choose_spec
  have h1 := loopN_le h m
  have h2 := loopN_le hm n
  rw [Nat.add_comm] at h2
  rw [h1] at h2
  exact (Option.some.inj h2).symm
theorem dWhile_none {c : Ev → Rs Bool} {b : DS} {env : Ev} (h : ¬ ∃ r n, loopN c b n env = some r) : dWhile c b env = .stuck := by
  unfold dWhile
  rw [dif_neg h]
section
variable {X : Cx} {W : WX} {e : Expr} {pos : Pos} {body : List Stmt} {b : DS} {c : Ev → Rs Bool}
theorem SS.while (po : PassesOwn (model X.prog X.w) X.A X.env X.xe) (hc : ST X W e c) (hb : SB X W body b) : SS X W (.While e body [] pos) (dWhile c b) := fun F ps σ G H A D env I R P => by
  refine PS.go (ps_while po pt_run pb_run) ?_
  by_cases ex : ∃ r n, loopN c b n env = some r
  · obtain ⟨r, n, hr⟩ := ex
    rw [dWhile_eq hr] at P
    refine ⟨fun m σ H => ∃ G2 A2 env2, Same G G2 ∧ EvIs X.K G2 H ps σ env2 A2 ∧ Rel F G2 H A2 ∧ loopN c b m env2 = some r, ⟨n, G, A, env, Same.refl G, I, R, hr⟩, ?_⟩
    rintro m σ1 H1 ⟨G1, A1, env1, s1, I1, R1, h1⟩
    cases m with
    | zero => cases h1
    | succ m =>
      unfold loopN at h1
      refine hc F ps σ1 G1 H1 A1 _ env1 I1 R1 ?_
      cases q : c env1 with
      | stuck => rw [q] at h1; cases h1; exact P
      | exc k fs env2 => rw [q] at h1; cases h1; exact exP.up s1 P
      | ok t env2 =>
        rw [q] at h1
        cases t with
        | false =>
          cases h1
          intro G' H' A' s' I' R'
          rw [if_neg Bool.false_ne_true]
          exact P σ1 G' H' A' (s1.trans s') I' R'
        | true =>
          intro G' H' A' s' I' R'
          rw [if_pos rfl]
          refine ⟨fun σ' H'' => ∃ G2 A2 env3, Same G G2 ∧ EvIs X.K G2 H'' ps σ' env3 A2 ∧ Rel F G2 H'' A2 ∧ loopN c b m env3 = some r, fun σ' H'' z => ⟨m, Nat.lt_succ_self m, z⟩, ?_⟩
          refine hb F ps σ1 G' H' A' _ env2 I' R' ?_
          dsimp only at h1
          cases q2 : b env2 with
          | stuck => rw [q2] at h1; cases h1; exact P
          | exc k fs env3 => rw [q2] at h1; cases h1; exact exP.up (s1.trans s') P
          | ok w env3 =>
            rw [q2] at h1
            cases w with
            | nx => exact fun σ' G2 H2 A2 s2 I2 R2 => ⟨G2, A2, env3, (s1.trans s').trans s2, I2, R2, h1⟩
            | ct => exact fun σ' G2 H2 A2 s2 I2 R2 => ⟨G2, A2, env3, (s1.trans s').trans s2, I2, R2, h1⟩
            | bk => cases h1; exact fun σ' G2 H2 A2 s2 I2 R2 => P σ' G2 H2 A2 ((s1.trans s').trans s2) I2 R2
            | rt t => cases h1; exact fun v' σ' G2 H2 A2 B s2 I2 i2 R2 => P v' σ' G2 H2 A2 B ((s1.trans s').trans s2) I2 i2 R2
  · rw [dWhile_none ex] at P; exact P.elim
end
end Dn

/-! numbers: the greatest common divisor, ratios, their sizes -/
namespace Mq
open PySem
theorem gcd_step (i j : Int) : Int.gcd j (i.fmod j) = Int.gcd i j := by
  rw [Int.fmod_def]
  rw [Int.gcd_comm i j, Int.sub_eq_add_neg, ← Int.mul_neg]
  exact Int.gcd_add_mul_left_right ..
theorem fmod_abs (i : Int) {j : Int} (h : j ≠ 0) : (i.fmod j).natAbs < j.natAbs := by
  rcases Int.lt_or_gt_of_ne h with h1 | h1
  · have h2 := Int.neg_fmod_neg i j
    have h3 : (-i).fmod (-j) < -j := Int.fmod_lt_of_pos _ (by omega)
    have h4 : 0 ≤ (-i).fmod (-j) := Int.fmod_nonneg_of_pos _ (by omega)
    omega
  · have h3 := Int.fmod_lt_of_pos i h1
    have h4 := Int.fmod_nonneg_of_pos i h1
    omega
/-- a ratio's two parts, from any two numbers -/
theorem ratio_parts (n d : Int) (hd : d ≠ 0) (s : Int) (hs : s = if d > 0 then 1 else -1) :
    n.fdiv ((Int.gcd n d : Int) * s) = (Rat.divInt n d).num ∧ d.fdiv ((Int.gcd n d : Int) * s) = (Rat.divInt n d).den := by
  have hg : (Int.gcd n d : Int) ≠ 0 := by
    intro z
    have : Int.gcd n d = 0 := by omega
    rw [Int.gcd_eq_zero_iff] at this
    exact hd this.2
  have hg0 : 0 < (Int.gcd n d : Int) := by omega
  obtain ⟨a, ha⟩ := Int.gcd_dvd_left (a := n) (b := d)
  obtain ⟨b, hb⟩ := Int.gcd_dvd_right (a := n) (b := d)
  rw [Rat.num_divInt, Rat.den_divInt, if_neg hd, Int.gcd_comm d n]
  generalize hgg : (Int.gcd n d) = g at *
  by_cases h : d > 0
  · rw [if_pos h] at hs
    subst hs
    have hsg : d.sign = 1 := Int.sign_eq_one_of_pos h
    rw [hsg, Int.mul_one, Int.one_mul]
    refine ⟨?_, ?_⟩
    · rw [Int.fdiv_eq_ediv_of_nonneg _ (by omega)]
    · rw [Int.fdiv_eq_ediv_of_nonneg _ (by omega), Int.natCast_ediv]
      have : ((d.natAbs : Nat) : Int) = d := by omega
      rw [this]
  · rw [if_neg h] at hs
    subst hs
    have hsg : d.sign = -1 := Int.sign_eq_neg_one_of_neg (by omega)
    rw [hsg]
    have e1 : ∀ x : Int, x.fdiv ((g : Int) * -1) = (-x) / (g : Int) := fun x => by
      have := Int.neg_fdiv_neg (-x) (g : Int)
      rw [Int.neg_neg] at this
      have e2 : (g : Int) * -1 = -(g : Int) := by omega
      rw [e2, this, Int.fdiv_eq_ediv_of_nonneg _ (by omega)]
    rw [e1, e1]
    refine ⟨by rw [Int.neg_one_mul], ?_⟩
    rw [Int.natCast_ediv]
    have : ((d.natAbs : Nat) : Int) = -d := by omega
    rw [this]
/-! sizes -/
def Sz (k : Nat) (q : Rat) : Prop := q.num.natAbs < 2 ^ k ∧ q.den < 2 ^ k
theorem Sz.up {a b : Nat} {q : Rat} (h : Sz a q) (l : a ≤ b) : Sz b q :=
  ⟨Nat.lt_of_lt_of_le h.1 (Nat.pow_le_pow_right (by decide) l), Nat.lt_of_lt_of_le h.2 (Nat.pow_le_pow_right (by decide) l)⟩
theorem mul_lt {a b x y : Nat} (hx : x < 2 ^ a) (hy : y < 2 ^ b) : x * y < 2 ^ (a + b) := by
  rw [Nat.pow_add]; exact Nat.mul_lt_mul'' hx hy
theorem mkRat_le (n : Int) (d : Nat) (hd : d ≠ 0) : (mkRat n d).num.natAbs ≤ n.natAbs ∧ (mkRat n d).den ≤ d := by
  rw [Rat.num_mkRat, Rat.den_mkRat, if_neg hd, if_neg hd]
  refine ⟨?_, Nat.div_le_self _ _⟩
  exact Int.natAbs_ediv_le_natAbs _ _
theorem Sz.mk {k : Nat} {n : Int} {d : Nat} (hd : d ≠ 0) (h1 : n.natAbs < 2 ^ k) (h2 : d < 2 ^ k) : Sz k (mkRat n d) :=
  ⟨Nat.lt_of_le_of_lt (mkRat_le n d hd).1 h1, Nat.lt_of_le_of_lt (mkRat_le n d hd).2 h2⟩
theorem two_mul_lt {a x y : Nat} (hx : x < 2 ^ a) (hy : y < 2 ^ a) : x + y < 2 ^ (a + 1) := by
  rw [Nat.pow_succ]; omega
theorem Sz.add {a b : Nat} {p q : Rat} (hp : Sz a p) (hq : Sz b q) : Sz (a + b + 1) (p + q) := by
  rw [Rat.add_def']
  have hd : p.den * q.den ≠ 0 := Nat.mul_ne_zero p.den_nz q.den_nz
  refine Sz.mk hd ?_ (Nat.lt_of_lt_of_le (mul_lt hp.2 hq.2) (Nat.pow_le_pow_right (by decide) (by omega)))
  have h1 : (p.num * q.den).natAbs < 2 ^ (a + b) := by rw [Int.natAbs_mul]; exact mul_lt hp.1 hq.2
  have h2 : (q.num * p.den).natAbs < 2 ^ (a + b) := by rw [Int.natAbs_mul, Nat.mul_comm]; exact mul_lt hp.2 hq.1
  exact Nat.lt_of_le_of_lt (Int.natAbs_add_le _ _) (two_mul_lt h1 h2)
theorem Sz.neg {a : Nat} {p : Rat} (hp : Sz a p) : Sz a (-p) := ⟨by rw [Rat.neg_num, Int.natAbs_neg]; exact hp.1, hp.2⟩
theorem Sz.sub {a b : Nat} {p q : Rat} (hp : Sz a p) (hq : Sz b q) : Sz (a + b + 1) (p - q) := by
  rw [Rat.sub_eq_add_neg]; exact hp.add hq.neg
theorem Sz.mul {a b : Nat} {p q : Rat} (hp : Sz a p) (hq : Sz b q) : Sz (a + b) (p * q) := by
  rw [Rat.mul_def']
  have hd : p.den * q.den ≠ 0 := Nat.mul_ne_zero p.den_nz q.den_nz
  exact Sz.mk hd (by rw [Int.natAbs_mul]; exact mul_lt hp.1 hq.1) (mul_lt hp.2 hq.2)
theorem Sz.inv {a : Nat} {p : Rat} (hp : Sz a p) : Sz a p⁻¹ := by
  refine ⟨?_, ?_⟩
  · rw [Rat.num_inv, Int.natAbs_mul]
    have h1 : p.num.sign.natAbs ≤ 1 := by
      rcases Int.lt_trichotomy p.num 0 with h | h | h
      · rw [Int.sign_eq_neg_one_of_neg h]; decide
      · rw [h]; decide
      · rw [Int.sign_eq_one_of_pos h]; decide
    have h2 : ((p.den : Int)).natAbs = p.den := by omega
    rw [h2]
    exact Nat.lt_of_le_of_lt (Nat.le_trans (Nat.mul_le_mul_right _ h1) (by omega)) hp.2
  · rw [Rat.den_inv]
    split
    · have := hp.2; have := p.den_pos; omega
    · exact hp.1
theorem Sz.div {a b : Nat} {p q : Rat} (hp : Sz a p) (hq : Sz b q) : Sz (a + b) (p / q) := by
  rw [Rat.div_def]; exact hp.mul hq.inv
theorem Sz.int {a : Nat} {n : Int} (ha : 0 < a) (h : n.natAbs < 2 ^ a) : Sz a (n : Rat) := by
  refine ⟨h, ?_⟩
  show 1 < 2 ^ a
  cases a with
  | zero => omega
  | succ a => have : 0 < 2 ^ a := Nat.pow_pos (by decide); rw [Nat.pow_succ]; omega
theorem floor_lt {a : Nat} {q : Rat} (h : Sz a q) : q.floor.natAbs < 2 ^ a := by
  rw [Rat.floor_def]
  exact Nat.lt_of_le_of_lt (Int.natAbs_ediv_le_natAbs _ _) h.1
theorem Sz.pos {a : Nat} {q : Rat} (h : Sz a q) : 0 < a := by
  cases a with
  | zero => have h2 := h.2; have := q.den_pos; simp at h2; omega
  | succ a => omega
theorem Sz.floor {a : Nat} {q : Rat} (h : Sz a q) : Sz a ((q.floor : Int) : Rat) := Sz.int h.pos (floor_lt h)
/-! the sums of the program -/
theorem add_parts (p q : Rat) : Rat.divInt (p.num * q.den + q.num * p.den) ((p.den : Int) * q.den) = p + q := by
  rw [Rat.add_def', ← Rat.divInt_ofNat, Int.natCast_mul]
theorem sub_parts (p q : Rat) : Rat.divInt (p.num * q.den - q.num * p.den) ((p.den : Int) * q.den) = p - q := by
  rw [Rat.sub_def', ← Rat.divInt_ofNat, Int.natCast_mul]
theorem mul_parts (p q : Rat) : Rat.divInt (p.num * q.num) ((p.den : Int) * q.den) = p * q := by
  rw [Rat.mul_def', ← Rat.divInt_ofNat, Int.natCast_mul]
theorem div_parts (p q : Rat) : Rat.divInt (p.num * q.den) ((p.den : Int) * q.num) = p / q := by
  rw [Rat.div_def, Rat.inv_def]
  conv => rhs; lhs; rw [← Rat.num_divInt_den p]
  rw [Rat.divInt_mul_divInt]
def cmpQ (p q : Rat) : Int := if p < q then -1 else if q < p then 1 else 0
theorem cmp_parts (p q : Rat) : (if decide ((0 : Int) < (p - q).num) = true then (1 : Int) else 0) - (if decide ((p - q).num < 0) = true then (1 : Int) else 0) = cmpQ p q := by
  have h1 : (p - q).num < 0 ↔ p < q := by
    rw [← Int.not_le, Rat.num_nonneg, ← Rat.le_iff_sub_nonneg, Rat.not_le]
  have h2 : 0 < (p - q).num ↔ q < p := by
    have e : (q - p).num = -(p - q).num := by rw [← Rat.neg_sub, Rat.neg_num]
    have h3 : (q - p).num < 0 ↔ q < p := by
      rw [← Int.not_le, Rat.num_nonneg, ← Rat.le_iff_sub_nonneg, Rat.not_le]
    rw [← h3, e]; omega
  unfold cmpQ
  simp only [decide_eq_true_eq, h1, h2]
  by_cases a : p < q
  · have b : ¬ q < p := Rat.not_lt.mpr (Rat.le_of_lt a)
    rw [if_pos a, if_neg b, if_pos a]; rfl
  · rw [if_neg a, if_neg a]
    by_cases b : q < p
    · rw [if_pos b]; rfl
    · rw [if_neg b]; rfl
/-- the rest by a modulus -/
def rem (p q : Rat) : Rat := p - q * ((p / q).floor : Int)
/-! numbers in order -/
/-- a number times a common multiple of the denominators -/
def wv (c : Nat) (q : Rat) : Int := q.num * ((c : Int) / (q.den : Int))
theorem wv_rat {c : Nat} {q : Rat} (hc : c ≠ 0) (h : q.den ∣ c) : Rat.divInt (wv c q) c = q := by
  obtain ⟨m, rfl⟩ := h
  have hm : m ≠ 0 := by intro z; subst z; simp at hc
  have e : ((q.den * m : Nat) : Int) / (q.den : Int) = m := by
    rw [Int.natCast_mul]; exact Int.mul_ediv_cancel_left _ (by have := q.den_pos; omega)
  unfold wv
  rw [e, Int.natCast_mul, Rat.divInt_mul_right (by omega)]
  exact Rat.num_divInt_den q
theorem wv_eq {c : Nat} {q : Rat} (hc : c ≠ 0) (h : q.den ∣ c) : ((wv c q : Int) : Rat) = q * (c : Rat) := by
  have hc2 : ((c : Int) : Rat) ≠ 0 := by
    intro z; exact hc (by exact_mod_cast z)
  have e := wv_rat hc h
  rw [Rat.divInt_eq_div] at e
  conv => rhs; rw [← e]
  rw [Rat.intCast_natCast] at *
  exact (Rat.div_mul_cancel (by exact_mod_cast hc)).symm
theorem wv_lt {c : Nat} {p q : Rat} (hc : c ≠ 0) (hp : p.den ∣ c) (hq : q.den ∣ c) (h : p < q) : wv c p < wv c q := by
  have h1 : ((wv c p : Int) : Rat) < ((wv c q : Int) : Rat) := by
    rw [wv_eq hc hp, wv_eq hc hq]
    have : (0 : Rat) < (c : Rat) := by
      have : 0 < c := by omega
      exact_mod_cast this
    exact Rat.mul_lt_mul_of_pos_right h this
  exact_mod_cast h1
/-- the least common multiple of the denominators -/
def cmn : List Rat → Nat → Nat
  | [], c => c
  | q :: qs, c => cmn qs (Nat.lcm c q.den)
theorem cmn_snoc (qs : List Rat) (q : Rat) : ∀ c, cmn (qs ++ [q]) c = Nat.lcm (cmn qs c) q.den := by
  induction qs with
  | nil => intro c; rfl
  | cons p qs ih => intro c; exact ih _
theorem cmn_pos (qs : List Rat) : ∀ c, c ≠ 0 → cmn qs c ≠ 0 := by
  induction qs with
  | nil => intro c h; exact h
  | cons p qs ih => intro c h; exact ih _ (Nat.lcm_ne_zero h (by have := p.den_pos; omega))
theorem cmn_dvd0 (qs : List Rat) : ∀ c, c ∣ cmn qs c := by
  induction qs with
  | nil => intro c; exact Nat.dvd_refl _
  | cons p qs ih => intro c; exact Nat.dvd_trans (Nat.dvd_lcm_left _ _) (ih _)
theorem cmn_dvd (qs : List Rat) : ∀ c q, q ∈ qs → q.den ∣ cmn qs c := by
  induction qs with
  | nil => intro c q h; cases h
  | cons p qs ih =>
    intro c q h
    rcases List.mem_cons.mp h with e | e
    · subst e; exact Nat.dvd_trans (Nat.dvd_lcm_right _ _) (cmn_dvd0 _ _)
    · exact ih _ _ e
theorem cmn_lt {k : Nat} (qs : List Rat) : ∀ c a, c < 2 ^ a → (∀ q ∈ qs, Sz k q) → cmn qs c < 2 ^ (a + k * qs.length) := by
  induction qs with
  | nil => intro c a h _; exact h
  | cons p qs ih =>
    intro c a h hs
    have h1 : Nat.lcm c p.den < 2 ^ (a + k) := by
      by_cases z : c = 0
      · subst z; rw [Nat.lcm_zero_left]; exact Nat.two_pow_pos _
      · exact Nat.lt_of_le_of_lt (Nat.le_of_dvd (Nat.mul_pos (by omega) p.den_pos) (Nat.lcm_dvd_mul _ _)) (mul_lt h (hs p List.mem_cons_self).2)
    have h2 := ih _ _ h1 fun q hq => hs q (List.mem_cons_of_mem _ hq)
    rw [List.length_cons, Nat.mul_succ]
    have e : a + k + k * qs.length = a + (k * qs.length + k) := by omega
    rw [← e]; exact h2
theorem lcm_step (c d : Nat) : ((c : Int) * d) / (Int.gcd c d : Int) = (Nat.lcm c d : Nat) := by
  rw [← Int.natCast_mul]
  show ((c * d : Nat) : Int) / ((Nat.gcd c d : Nat) : Int) = _
  rw [← Int.natCast_ediv]; rfl
theorem rlt_trans {p q r : Rat} (h1 : p < q) (h2 : q < r) : p < r := by
  rw [← Rat.not_le] at h2 ⊢
  exact fun h => h2 (Rat.le_trans h (Rat.le_of_lt h1))
/-- the members in order, each once -/
theorem rsort (qs : List Rat) : ∃ rs : List Rat, rs.Pairwise (· < ·) ∧ (∀ q, q ∈ rs ↔ q ∈ qs) ∧ rs.length ≤ qs.length := by
  induction qs with
  | nil => exact ⟨[], .nil, fun q => Iff.rfl, Nat.le_refl _⟩
  | cons p qs ih =>
    obtain ⟨rs, h1, h2, h3⟩ := ih
    have key : ∀ rs : List Rat, rs.Pairwise (· < ·) → ∃ ss : List Rat, ss.Pairwise (· < ·) ∧ (∀ q, q ∈ ss ↔ q = p ∨ q ∈ rs) ∧ ss.length ≤ rs.length + 1 := by
      intro rs
      induction rs with
      | nil => intro _; exact ⟨[p], List.pairwise_singleton _ _, fun q => by simp, Nat.le_refl _⟩
      | cons r rs ih =>
        intro h
        obtain ⟨a, b⟩ := List.pairwise_cons.mp h
        by_cases h1 : p < r
        · refine ⟨p :: r :: rs, List.pairwise_cons.mpr ⟨fun x hx => ?_, h⟩, fun q => List.mem_cons, Nat.le_refl _⟩
          rcases List.mem_cons.mp hx with e | e
          · rw [e]; exact h1
          · exact rlt_trans h1 (a x e)
        · by_cases h2 : p = r
          · refine ⟨r :: rs, h, fun q => ?_, by simp⟩
            rw [h2, List.mem_cons]
            exact ⟨fun z => .inr z, fun z => z.elim .inl id⟩
          · have h3 : r < p := by
              rcases Rat.le_iff_lt_or_eq.mp (Rat.not_lt.mp h1) with z | z
              · exact z
              · exact absurd z.symm h2
            obtain ⟨ss, s1, s2, s3⟩ := ih b
            refine ⟨r :: ss, List.pairwise_cons.mpr ⟨fun x hx => ?_, s1⟩, fun q => ?_, by simp only [List.length_cons]; omega⟩
            · rcases (s2 x).mp hx with e | e
              · rw [e]; exact h3
              · exact a x e
            · rw [List.mem_cons, s2, List.mem_cons]
              constructor
              · rintro (z | z | z)
                · exact .inr (.inl z)
                · exact .inl z
                · exact .inr (.inr z)
              · rintro (z | z | z)
                · exact .inr (.inl z)
                · exact .inl z
                · exact .inr (.inr z)
    obtain ⟨ss, s1, s2, s3⟩ := key rs h1
    refine ⟨ss, s1, fun q => ?_, by rw [List.length_cons]; omega⟩
    rw [s2, h2, List.mem_cons]
end Mq

namespace Mq
open PySem PySem.Spec PyProof.Rows
/-! ### texts in order -/
theorem lc_irr : ∀ a : List Nat, ltCps a a = false
  | [] => rfl
  | a :: r => by simp [ltCps, lc_irr r]
theorem lc_asym : ∀ a b : List Nat, ltCps a b = true → ltCps b a = false
  | [], [], h => by simp [ltCps] at h
  | [], _ :: _, _ => rfl
  | _ :: _, [], h => by simp [ltCps] at h
  | a :: r, b :: t, h => by
    simp only [ltCps, Bool.or_eq_true, Bool.and_eq_true, decide_eq_true_eq, beq_iff_eq] at h
    simp only [ltCps, Bool.or_eq_false_iff, Bool.and_eq_false_iff, decide_eq_false_iff_not, beq_eq_false_iff_ne]
    rcases h with h | ⟨rfl, h⟩
    · exact ⟨by omega, .inl (by omega)⟩
    · exact ⟨by omega, .inr (lc_asym r t h)⟩
theorem lc_anti : ∀ a b : List Nat, ltCps a b = false → ltCps b a = false → a = b
  | [], [], _, _ => rfl
  | [], _ :: _, h, _ => by simp [ltCps] at h
  | _ :: _, [], _, h => by simp [ltCps] at h
  | a :: r, b :: t, h1, h2 => by
    simp only [ltCps, Bool.or_eq_false_iff, Bool.and_eq_false_iff, decide_eq_false_iff_not, beq_eq_false_iff_ne] at h1 h2
    have e : a = b := by omega
    subst e
    rw [lc_anti r t (h1.2.resolve_left fun z => z rfl) (h2.2.resolve_left fun z => z rfl)]
theorem lc_trans : ∀ a b c : List Nat, ltCps b a = false → ltCps c b = false → ltCps c a = false
  | [], b, c, _, h2 => by
    cases c with
    | nil => rfl
    | cons => rfl
  | a :: r, [], c, h1, _ => by simp [ltCps] at h1
  | a :: r, b :: t, [], _, h2 => by simp [ltCps] at h2
  | a :: r, b :: t, c :: u, h1, h2 => by
    simp only [ltCps, Bool.or_eq_false_iff, Bool.and_eq_false_iff, decide_eq_false_iff_not, beq_eq_false_iff_ne] at h1 h2 ⊢
    refine ⟨by omega, ?_⟩
    by_cases e : c = a
    · have e1 : b = a := by omega
      have e2 : c = b := by omega
      exact .inr (lc_trans r t u (h1.2.resolve_left fun z => z e1) (h2.2.resolve_left fun z => z e2))
    · exact .inl e
/-- not later -/
def sle (a b : Str) : Bool := !ltCps b.cps.toList a.cps.toList
theorem sle_refl (a : Str) : sle a a = true := by simp [sle, lc_irr]
theorem sle_total (a b : Str) : sle a b = true ∨ sle b a = true := by
  unfold sle
  cases h : ltCps b.cps.toList a.cps.toList with
  | false => exact .inl rfl
  | true => exact .inr (by rw [lc_asym _ _ h]; rfl)
theorem sle_trans {a b c : Str} (h1 : sle a b = true) (h2 : sle b c = true) : sle a c = true := by
  unfold sle at *
  rw [Bool.not_eq_true'] at *
  exact lc_trans _ _ _ h1 h2
theorem sle_anti {a b : Str} (h1 : sle a b = true) (h2 : sle b a = true) : a = b := by
  unfold sle at *
  rw [Bool.not_eq_true'] at *
  have := lc_anti _ _ h2 h1
  cases a; cases b
  simp only [Str.mk.injEq]
  exact Array.toList_inj.mp this
theorem sorted_pair : ∀ {xs : List Str}, sortedS xs = true → xs.Pairwise fun a b => sle a b = true
  | [], _ => .nil
  | [x], _ => List.pairwise_singleton _ _
  | x :: y :: r, h => by
    have h : (!ltCps y.cps.toList x.cps.toList && risingS y r) = true := h
    rw [Bool.and_eq_true] at h
    have t : (y :: r).Pairwise fun a b => sle a b = true := sorted_pair (xs := y :: r) h.2
    refine List.pairwise_cons.mpr ⟨fun b hb => ?_, t⟩
    rcases List.mem_cons.mp hb with rfl | hb
    · exact h.1
    · exact sle_trans (show sle x y = true from h.1) ((List.pairwise_cons.mp t).1 b hb)
theorem pair_sorted {xs : List Str} (h : xs.Pairwise fun a b => sle a b = true) : sortedS xs = true :=
  sortedS_of_pairwise xs (h.imp fun {a b} z => by unfold sle at z; rwa [Bool.not_eq_true'] at z)
theorem sle_uniq : ∀ {xs ys : List Str}, xs.Perm ys → xs.Pairwise (fun a b => sle a b = true) → ys.Pairwise (fun a b => sle a b = true) → xs = ys
  | [], ys, h, _, _ => (List.nil_perm.mp h).symm
  | x :: xs, [], h, _, _ => absurd h.length_eq (by simp)
  | x :: xs, y :: ys, h, h1, h2 => by
    obtain ⟨a1, b1⟩ := List.pairwise_cons.mp h1
    obtain ⟨a2, b2⟩ := List.pairwise_cons.mp h2
    have e : x = y := by
      have m1 : x ∈ y :: ys := h.mem_iff.mp List.mem_cons_self
      have m2 : y ∈ x :: xs := h.mem_iff.mpr List.mem_cons_self
      rcases List.mem_cons.mp m1 with e | m1
      · exact e
      · rcases List.mem_cons.mp m2 with e | m2
        · exact e.symm
        · exact sle_anti (a1 _ m2) (a2 _ m1)
    subst e
    rw [sle_uniq (List.Perm.cons_inv h) b1 b2]
theorem sorted_uniq {xs ys : List Str} (h : xs.Perm ys) (h1 : sortedS xs = true) (h2 : sortedS ys = true) : xs = ys := sle_uniq h (sorted_pair h1) (sorted_pair h2)
/-- rows by name, put into order -/
def insR {α : Type} (r : Str × α) : List (Str × α) → List (Str × α)
  | [] => [r]
  | s :: t => if sle r.1 s.1 = true then r :: s :: t else s :: insR r t
def srtR {α : Type} : List (Str × α) → List (Str × α)
  | [] => []
  | r :: t => insR r (srtR t)
section
variable {α : Type}
theorem insR_perm (r : Str × α) : ∀ t, (insR r t).Perm (r :: t)
  | [] => .refl _
  | s :: t => by
    unfold insR
    split
    · exact .refl _
    · exact ((insR_perm r t).cons s).trans (.swap _ _ _)
theorem srtR_perm : ∀ t : List (Str × α), (srtR t).Perm t
  | [] => .refl _
  | r :: t => (insR_perm r _).trans ((srtR_perm t).cons r)
theorem insR_srt (r : Str × α) : ∀ t : List (Str × α), (t.Pairwise fun a b => sle a.1 b.1 = true) → (insR r t).Pairwise fun a b => sle a.1 b.1 = true
  | [], _ => List.pairwise_singleton _ _
  | s :: t, h => by
    unfold insR
    split
    · rename_i h1
      refine List.pairwise_cons.mpr ⟨fun b hb => ?_, h⟩
      rcases List.mem_cons.mp hb with rfl | hb
      · exact h1
      · exact sle_trans h1 ((List.pairwise_cons.mp h).1 b hb)
    · rename_i h1
      obtain ⟨a1, b1⟩ := List.pairwise_cons.mp h
      refine List.pairwise_cons.mpr ⟨fun b hb => ?_, insR_srt r t b1⟩
      rcases List.mem_cons.mp ((insR_perm r t).mem_iff.mp hb) with rfl | hb
      · exact (sle_total _ _).resolve_left h1
      · exact a1 b hb
theorem srtR_srt : ∀ t : List (Str × α), (srtR t).Pairwise fun a b => sle a.1 b.1 = true
  | [] => .nil
  | r :: t => insR_srt r _ (srtR_srt t)
theorem srtR_names (t : List (Str × α)) : sortedS ((srtR t).map (·.1)) = true := pair_sorted (List.pairwise_map.mpr (srtR_srt t))
theorem srtR_uniq (t : List (Str × α)) (ks : List Str) (zs : List Str) (e : t.map (·.1) = ks) (h : zs.Perm ks) (hs : sortedS zs = true) : zs = (srtR t).map (·.1) :=
  sorted_uniq (h.trans (e ▸ ((srtR_perm t).map _).symm)) hs (srtR_names t)
theorem srtR_id : ∀ {t : List (Str × α)}, (t.Pairwise fun a b => sle a.1 b.1 = true) → srtR t = t
  | [], _ => rfl
  | r :: t, h => by
    obtain ⟨a1, b1⟩ := List.pairwise_cons.mp h
    unfold srtR
    rw [srtR_id b1]
    cases t with
    | nil => rfl
    | cons s t => unfold insR; rw [if_pos (a1 s List.mem_cons_self)]
theorem srtR_mem {t : List (Str × α)} {r : Str × α} : r ∈ srtR t ↔ r ∈ t := (srtR_perm t).mem_iff
theorem srtR_len (t : List (Str × α)) : (srtR t).length = t.length := (srtR_perm t).length_eq
end
theorem lookup_mem {α : Type} {x : Str} {a : α} : ∀ {t : List (Str × α)}, (t.map (·.1)).Nodup → (x, a) ∈ t → t.lookup x = some a
  | [], _, h => by cases h
  | (y, b) :: t, nd, h => by
    obtain ⟨n1, n2⟩ := List.nodup_cons.mp (show (y :: t.map (·.1)).Nodup from nd)
    rw [List.lookup_cons]
    rcases List.mem_cons.mp h with e | h
    · cases e; rw [beq_self_eq_true]
    · have : x ≠ y := fun e => n1 (e ▸ List.mem_map.mpr ⟨_, h, rfl⟩)
      rw [beq_eq_false_iff_ne.mpr this]
      exact lookup_mem n2 h
theorem lookup_none {α : Type} {x : Str} : ∀ {t : List (Str × α)}, x ∉ t.map (·.1) → t.lookup x = none
  | [], _ => rfl
  | (y, b) :: t, h => by
    rw [List.lookup_cons]
    have h1 : x ≠ y := fun e => h (by rw [e]; exact List.mem_cons_self)
    rw [beq_eq_false_iff_ne.mpr h1]
    exact lookup_none fun z => h (List.mem_cons_of_mem _ z)
theorem lookup_perm {α : Type} {x : Str} {s t : List (Str × α)} (h : s.Perm t) (nd : (t.map (·.1)).Nodup) : s.lookup x = t.lookup x := by
  have nds : (s.map (·.1)).Nodup := (h.map _).nodup_iff.mpr nd
  by_cases hx : x ∈ t.map (·.1)
  · obtain ⟨⟨y, a⟩, hm, rfl⟩ := List.mem_map.mp hx
    rw [lookup_mem nd hm, lookup_mem nds (h.mem_iff.mpr hm)]
  · rw [lookup_none hx, lookup_none fun z => hx ((h.map _).mem_iff.mp z)]
end Mq

namespace Dn
open PySem PySem.Spec PyProof.Rows L2
/-! ### a, b = x, y -/
section
variable {X : Cx} {W : WX} {F : Fm} {ps : List V} {σ : L2.St} {G H : Hp} {A B : List Addr} {env : Ev} {β : Type} {ok : β → Ev → Prop} {e e1 e2 e3 tg : Expr} {es : List Expr} {d d1 d2 d3 : DE} {K1 : VK} {x y z : Str} {pos px py pz pt p : Pos} {i j l : Nat} {kt k2 : Nat}
/-- e is evaluated beside what B owns -/
theorem SE.seqF (h : SE X W e d) {f : T → Ev → Rs β} (I : EvIs X.K G H ps σ env A) (R : Rel F G H (A ++ B)) (P : ((d env).bind f).post ok (exP X W F ps G))
    (k : ∀ t env' v G' H' A' B', Same G G' → EvIs X.K G' H' ps σ env' A' → TIs X.K G' H' v t B' → Rel F G' H' (B' ++ (A' ++ B)) → (∀ a ∈ B, H' a = H a) → (f t env').post ok (exP X W F ps G') → K1 v H') : RunE X e σ H K1 := by
  have R0 : Rel ⟨G, H, fun a => a ∈ A⟩ G H A := R.start (fun b hb => List.mem_append_left _ hb) R.left.nd
  refine h _ ps σ G H A K1 env I R0 ?_
  cases q : d env with
  | ok t env' =>
    rw [q] at P
    intro v G' H' A' B' s I' i R'
    obtain ⟨R2, s2, k2⟩ := Rel.back R R'
    rw [List.append_assoc] at R2
    exact k t env' v G' H' A' B' s I' i R2 k2 (post_up s P)
  | exc c fs env' =>
    rw [q] at P
    intro cls dx σ' G' H' A' s I' R' x
    obtain ⟨R2, s2, k2⟩ := Rel.back R R'
    exact P cls dx σ' G' H' A' s I' R2.left x
  | stuck => rw [q] at P; exact P
def dPar2 (i j : Nat) (d1 d2 : DE) : DS := fun env => (d1 env).bind fun t env => (d2 env).bind fun u env => nxO ((putS i t env).bind fun env => putS j u env)
theorem SS.par2 (hc : X.calm = true) (hN : X.N.Nodup) (hi : X.N[i]? = some x) (hj : X.N[j]? = some y) (hij : i ≠ j) (hx : X.env.scope.names.lookup x = some .local) (hy : X.env.scope.names.lookup y = some .local)
    (hw : swappedStores [.Tuple [.Name x px, .Name y py] kt pt] (.Tuple [e1, e2] k2 p) X.env = pure (some [x, y])) (hs : swapsWithSole [.Tuple [.Name x px, .Name y py] kt pt] (.Tuple [e1, e2] k2 p) pos.line X.env = pure false)
    (he : starEach [e1, e2] X.env = (false, eval e1 X.env) :: starEach [e2] X.env) (he2 : starEach [e2] X.env = (false, eval e2 X.env) :: starEach [] X.env)
    (h1 : SE X W e1 d1) (h2 : SE X W e2 d2) : SS X W (.Assign [.Tuple [.Name x px, .Name y py] kt pt] (.Tuple [e1, e2] k2 p) pos) (dPar2 i j d1 d2) := fun F ps σ G H A D env I R P => by
  refine PS.go (ps_par hc hN hi hj hij hx hy (pa_cons pe_run (pa_cons pe_run pa_nil he2) he) hw hs) ?_
  refine h1.seq I R P fun t env1 v G1 H1 A1 B1 s1 I1 i1 R1 P1 => ?_
  refine h2.seqF (B := B1) I1 (R1.perm List.perm_append_comm) P1 fun u env2 w G2 H2 A2 B2 s2 I2 i2 R2 k2 P2 => ?_
  refine ⟨v, w, rfl, ?_⟩
  cases q : (putS i t env2).bind fun env => putS j u env with
  | none => rw [q] at P2; exact P2.elim
  | some env4 =>
    rw [q] at P2
    obtain ⟨env3, q1, q2⟩ := Option.bind_eq_some_iff.mp q
    have i1' := i1.up (H' := H2) s2 k2
    have R3 : Rel F G2 H2 (B2 ++ (B1 ++ A2)) := R2.perm (List.Perm.append_left _ List.perm_append_comm)
    unfold putS at q1 q2
    by_cases hp : isPar (getS env2 i) = true
    · rw [if_pos hp] at q1; cases q1
    · rw [if_neg hp] at q1
      cases q1
      obtain ⟨A3, C3, I3, m3, n3, _⟩ := I2.put (by simpa using hp) i1'
      have R4 : Rel F G2 H2 (B2 ++ A3) := R3.sub (fun a ha => (List.mem_append.mp ha).elim (List.mem_append_left _) fun z => List.mem_append_right _ (m3 a z)) (by
        obtain ⟨a1, a2, a3⟩ := List.nodup_append.mp R3.nd
        exact List.nodup_append.mpr ⟨a1, n3 a2, fun a ha b hb => a3 a ha b (m3 b hb)⟩)
      by_cases hp2 : isPar (getS (setS env2 i (.loc t)) j) = true
      · rw [if_pos hp2] at q2; cases q2
      · rw [if_neg hp2] at q2
        cases q2
        obtain ⟨A4, I4, R5⟩ := I3.putR (by simpa using hp2) i2 R4
        exact P2 _ G2 H2 A4 (s1.trans s2) I4 R5
def dPar3 (i j l : Nat) (ds : Ev → Rs (List D)) : DS := fun env => (ds env).bind fun xs env => match xs with
  | [a, b, c] => nxO ((putS i (.d a) env).bind fun env => (putS j (.d b) env).bind fun env => putS l (.d c) env)
  | _ => .stuck
theorem SS.par3 {ds : Ev → Rs (List D)} (hc : X.calm = true) (hN : X.N.Nodup) (hi : X.N[i]? = some x) (hj : X.N[j]? = some y) (hl : X.N[l]? = some z) (hij : i ≠ j) (hil : i ≠ l) (hjl : j ≠ l) (hx : X.env.scope.names.lookup x = some .local) (hy : X.env.scope.names.lookup y = some .local) (hz : X.env.scope.names.lookup z = some .local)
    (hw : swappedStores [.Tuple [.Name x px, .Name y py, .Name z pz] kt pt] (.Tuple [e1, e2, e3] k2 p) X.env = pure (some [x, y, z])) (hs : swapsWithSole [.Tuple [.Name x px, .Name y py, .Name z pz] kt pt] (.Tuple [e1, e2, e3] k2 p) pos.line X.env = pure false)
    (h : SA X W [e1, e2, e3] ds) : SS X W (.Assign [.Tuple [.Name x px, .Name y py, .Name z pz] kt pt] (.Tuple [e1, e2, e3] k2 p) pos) (dPar3 i j l ds) := fun F ps σ G H A D env I R P =>
  PS.go (ps_par3 hc hN hi hj hl hij hil hjl hx hy hz pa_run hw hs) (h.seq I R P fun xs env1 vs G1 H1 A1 s1 I1 i1 R1 P1 => by
    cases i1 with
    | nil => exact P1.elim
    | cons a1 t =>
      cases t with
      | nil => exact P1.elim
      | cons a2 t =>
        cases t with
        | nil => exact P1.elim
        | cons a3 t =>
          cases t with
          | cons _ _ => exact P1.elim
          | nil =>
            refine ⟨_, _, _, rfl, ?_⟩
            dsimp only at P1
            cases q : (putS i (.d _) env1).bind fun env => (putS j (.d _) env).bind fun env => putS l (.d _) env with
            | none => rw [q] at P1; exact P1.elim
            | some env4 =>
              rw [q] at P1
              obtain ⟨env2, q1, q2⟩ := Option.bind_eq_some_iff.mp q
              obtain ⟨env3, q3, q4⟩ := Option.bind_eq_some_iff.mp q2
              obtain ⟨A2, I2, R2⟩ := putS_run (B := []) I1 R1 (.d a1) q1
              obtain ⟨A3, I3, R3⟩ := putS_run (B := []) I2 R2 (.d a2) q3
              obtain ⟨A4, I4, R4⟩ := putS_run (B := []) I3 R3 (.d a3) q4
              exact P1 _ G1 H1 A4 s1 I4 R4)
/-! ### name op= e, ints -/
def dAug (i : Nat) (f : Int → Int → Int) (d : DE) : DS := fun env => match treeS (getS env i) with
  | some (.d (.int a)) => (d env).bind fun t env => match t with
    | .d (.int b) => nxO (putS i (.d (.int (f a b))) env)
    | _ => .stuck
  | _ => .stuck
theorem SS.aug {op : Operator} {f : Int → Int → Int} (ho : PIp X op (ipI f)) (hN : X.N.Nodup) (hi : X.N[i]? = some x) (hx : locB X.env.scope x = true) (hf : fnB X x = true) (h : SE X W e d) : SS X W (.AugAssign (.Name x px) op e pos) (dAug i f d) := fun F ps σ G H A D env I R P => by
  refine PS.go (ps_aug hN hi (loc_of hx) pe_run ho (fn_ofB hf)) ?_
  unfold dAug at P
  cases q : treeS (getS env i) with
  | none => rw [q] at P; exact P.elim
  | some t0 =>
    rw [q] at P
    obtain ⟨v, B, C, h1, h2, _, _⟩ := I.tree q
    cases t0 with
    | d a =>
      cases a with
      | int a =>
        refine ⟨v, h1, ?_⟩
        cases h2 with
        | d h2 =>
          rw [h2.intE]
          refine h.seq I R P fun t env1 w G1 H1 A1 B1 s1 I1 i1 R1 P1 => ?_
          cases i1 with
          | d i1 =>
            cases i1 with
            | int b =>
              refine ⟨a, b, rfl, rfl, ?_⟩
              dsimp only at P1
              cases q2 : putS i (.d (.int (f a b))) env1 with
              | none => rw [q2] at P1; exact P1.elim
              | some env2 =>
                rw [q2] at P1
                obtain ⟨A2, I2, R2⟩ := putS_run (B := []) I1 R1 (.d (.int _)) q2
                exact P1 _ G1 H1 A2 s1 I2 R2
            | _ => exact P1.elim
          | _ => exact P1.elim
      | _ => exact P.elim
    | _ => exact P.elim
theorem SS.augAdd (hN : X.N.Nodup) (hi : X.N[i]? = some x) (hx : locB X.env.scope x = true) (hf : fnB X x = true) (h : SE X W e d) : SS X W (.AugAssign (.Name x px) .Add e pos) (dAug i (fun a b => a + b) d) := SS.aug ip_add hN hi hx hf h
theorem SS.augSub (hN : X.N.Nodup) (hi : X.N[i]? = some x) (hx : locB X.env.scope x = true) (hf : fnB X x = true) (h : SE X W e d) : SS X W (.AugAssign (.Name x px) .Sub e pos) (dAug i (fun a b => a - b) d) := SS.aug ip_sub hN hi hx hf h
/-- a statement that is not reached -/
def dNo : DS := fun _ => .stuck
theorem SS.no {st : Stmt} : SS X W st dNo := fun F ps σ G H A D env I R P => P.elim
def dNoE : DE := fun _ => .stuck
theorem SE.no : SE X W e dNoE := fun F ps σ G H A Q env I R P => P.elim
end
/-! ### built-in calls by values -/
def CallV1 (X : Cx) (f : Value) (o : D → Option T) : Prop := ∀ (F : Fm) (A : List Addr) (G H : Hp) (v : V) (x : D) (t : T) (Q : VK), Rel F G H A → Vw X.K G H v x → o x = some t → OkO X F G H A Q t → RunC X f [v] H Q
def CallVs (X : Cx) (f : Value) (o : List D → Option T) : Prop := ∀ (F : Fm) (A : List Addr) (G H : Hp) (vs : List V) (xs : List D) (t : T) (Q : VK), Rel F G H A → IsL X.K G vs xs → o xs = some t → OkO X F G H A Q t → RunC X f vs H Q
def dB1 (o : D → Option T) (d : Ev → Rs D) : DE := fun env => (d env).bind fun x env => ofO (o x) env
def dBs (o : List D → Option T) (ds : Ev → Rs (List D)) : DE := fun env => (ds env).bind fun xs env => ofO (o xs) env
section
variable {X : Cx} {W : WX} {e e1 e2 e3 : Expr} {es : List Expr} {x : Str} {p pos : Pos} {id T' : String} {o : D → Option T} {os : List D → Option T} {d : Ev → Rs D} {ds : Ev → Rs (List D)}
theorem SE.callB1 (ho : CallV1 X (.builtin id) o) (hm : X.mg x = none) (hv : bootBuiltins x = some (.builtin id)) (hg : Gl X x) (hn : x ≠ "__name__") (hdb : (x == ("__debug__" : Str)) = false) (he : starEach [e] X.env = (false, eval e X.env) :: starEach [] X.env) (hpl : (backTo pos (starEach [] X.env)).any (·.1) = false) (h : SV X W e d) : SE X W (.Call (.Name x p) [e] [] pos) (dB1 o d) := fun F ps σ G H A Q env I R P =>
  PE.go (pe_callB cr_run hg hm hv (pa_cons pe_run pa_nil he) hn hdb he hpl) (h.seq I R P fun z env1 v G1 H1 A1 s1 I1 i1 R1 P1 => by
    cases q : o z with
    | none => rw [q] at P1; exact P1.elim
    | some t => rw [q] at P1; exact ho F A1 G1 H1 v z t Q R1 i1 q (okO_of I1 R1 s1 P1))
theorem SE.callT1 (ho : CallV1 X (.type T') o) (hm : X.mg x = none) (hv : bootBuiltins x = some (.type T')) (hg : Gl X x) (hn : x ≠ "__name__") (hdb : (x == ("__debug__" : Str)) = false) (he : starEach [e] X.env = (false, eval e X.env) :: starEach [] X.env) (hpl : (backTo pos (starEach [] X.env)).any (·.1) = false) (h : SV X W e d) : SE X W (.Call (.Name x p) [e] [] pos) (dB1 o d) := fun F ps σ G H A Q env I R P =>
  PE.go (pe_callTy cr_run hg hm hv (pa_cons pe_run pa_nil he) hn hdb he hpl) (h.seq I R P fun z env1 v G1 H1 A1 s1 I1 i1 R1 P1 => by
    cases q : o z with
    | none => rw [q] at P1; exact P1.elim
    | some t => rw [q] at P1; exact ho F A1 G1 H1 v z t Q R1 i1 q (okO_of I1 R1 s1 P1))
theorem SE.callBs (ho : CallVs X (.builtin id) os) (hm : X.mg x = none) (hv : bootBuiltins x = some (.builtin id)) (hg : Gl X x) (hn : x ≠ "__name__") (hdb : (x == ("__debug__" : Str)) = false) (he : starEach (e :: es) X.env = (false, eval e X.env) :: starEach es X.env) (hpl : (backTo pos (starEach es X.env)).any (·.1) = false) (h : SA X W (e :: es) ds) : SE X W (.Call (.Name x p) (e :: es) [] pos) (dBs os ds) := fun F ps σ G H A Q env I R P =>
  PE.go (pe_callB cr_run hg hm hv pa_run hn hdb he hpl) (h.seq I R P fun z env1 v G1 H1 A1 s1 I1 i1 R1 P1 => by
    cases q : os z with
    | none => rw [q] at P1; exact P1.elim
    | some t => rw [q] at P1; exact ho F A1 G1 H1 v z t Q R1 i1 q (okO_of I1 R1 s1 P1))
end
section
variable {X : Cx}
/-! len -/
theorem call_lenDR : CallR X (.builtin "len") (fun xs H Q => ∃ a kvs, xs = [V.ref a] ∧ Rd H a (.dK kvs) ∧ Q (.int kvs.length) H) := by
  intro pins s σ H xs us Q I r h
  obtain ⟨a, kvs, rfl, ha, q⟩ := h
  obtain ⟨u, rfl, ru⟩ := vals1 r
  cases ru
  exact d_len I ha fun t s' I' => ⟨.int kvs.length, H, I', ⟨t, rfl⟩, q⟩
def lenD : D → Option Int
  | .list ds => some ds.length
  | .tup ds => some ds.length
  | .scr ns => some ns.length
  | .str z => if z.length ≤ sizeLine then some z.length else none
  | .dict ks _ => some ks.length
  | _ => none
def oLen (x : D) : Option T := (lenD x).map fun n => .d (.int n)
theorem cv_len : CallV1 X (.builtin "len") oLen := fun F A G H v x t Q R h e k => by
  obtain ⟨n, e1, rfl⟩ := Option.map_eq_some_iff.mp e
  have kk := k.data (.int n) R
  cases x with
  | list ds =>
    cases e1
    obtain ⟨a, xs, rfl, ha, r⟩ := h.list _ rfl
    exact CallR.go call_len ⟨_, _, rfl, .inl ⟨xs, SqL.of ha, rfl⟩, by rw [r.length]; exact kk⟩
  | tup ds =>
    cases e1
    obtain ⟨a, xs, rfl, ha, r⟩ := h.tup _ rfl
    exact CallR.go call_len ⟨_, _, rfl, .inr ⟨xs, SqT.of ha, rfl⟩, by rw [r.length]; exact kk⟩
  | scr ns =>
    cases e1
    obtain ⟨a, rfl, ha⟩ := h.scr _ rfl
    exact CallR.go call_len ⟨_, _, rfl, .inl ⟨_, ha, rfl⟩, by rw [List.length_map]; exact kk⟩
  | str z =>
    have e1 : (if z.length ≤ sizeLine then some (z.length : Int) else none) = some n := e1
    by_cases hz : z.length ≤ sizeLine
    · rw [if_pos hz] at e1
      cases e1
      rw [h.str _ rfl]
      exact CallR.go call_len ⟨_, _, rfl, ⟨hz, rfl⟩, kk⟩
    · rw [if_neg hz] at e1; cases e1
  | dict ks ds =>
    cases e1
    obtain ⟨a, kv, rfl, ha, hk, r⟩ := h.dict _ _ rfl
    subst hk
    exact CallR.go call_lenDR ⟨a, kv, rfl, ha, by rw [← List.length_map (f := fun p : Key × V => p.1)]; exact kk⟩
  | _ => cases e1
/-! abs, int, max, min of two -/
def oAbs : D → Option T
  | .int i => some (.d (.int (if i < 0 then -i else i)))
  | _ => none
theorem cv_abs : CallV1 X (.builtin "abs") oAbs := fun F A G H v x t Q R h e k => by
  cases x with
  | int i => cases e; rw [h.int _ rfl]; exact CallR.go call_abs ⟨i, rfl, k.data (.int _) R⟩
  | _ => cases e
def oInt : D → Option T
  | .int i => some (.d (.int i))
  | .bool b => some (.d (.int (if b then 1 else 0)))
  | _ => none
theorem cv_int : CallV1 X (.type "int") oInt := fun F A G H v x t Q R h e k => by
  cases x with
  | int i => cases e; rw [h.int _ rfl]; exact CallR.go call_int1 (.inl ⟨i, rfl, k.data (.int _) R⟩)
  | bool b => cases e; rw [h.bool _ rfl]; exact CallR.go call_int1 (.inr ⟨b, rfl, k.data (.int _) R⟩)
  | _ => cases e
def oMax2 : List D → Option T
  | [.int i, .int j] => some (.d (.int (if j > i then j else i)))
  | _ => none
def oMin2 : List D → Option T
  | [.int i, .int j] => some (.d (.int (if j < i then j else i)))
  | _ => none
theorem cv_max2 (hc : X.calm = true) : CallVs X (.builtin "max") oMax2 := fun F A G H vs xs t Q R h e k => by
  unfold oMax2 at e
  split at e
  · cases e
    cases h with
    | cons h1 r =>
      cases r with
      | cons h2 r =>
        cases r
        rw [h1.intE, h2.intE]
        exact CallR.go (call_max2 hc) ⟨_, _, rfl, k.data (.int _) R⟩
  · cases e
theorem cv_min2 (hc : X.calm = true) : CallVs X (.builtin "min") oMin2 := fun F A G H vs xs t Q R h e k => by
  unfold oMin2 at e
  split at e
  · cases e
    cases h with
    | cons h1 r =>
      cases r with
      | cons h2 r =>
        cases r
        rw [h1.intE, h2.intE]
        exact CallR.go (call_min2 hc) ⟨_, _, rfl, k.data (.int _) R⟩
  · cases e
/-! lists of ints, bools, texts -/
def intsD : List D → Option (List Int)
  | [] => some []
  | .int i :: ds => (intsD ds).map (i :: ·)
  | _ => none
def boolsD : List D → Option (List Bool)
  | [] => some []
  | .bool i :: ds => (boolsD ds).map (i :: ·)
  | _ => none
def strsD : List D → Option (List Str)
  | [] => some []
  | .str i :: ds => (strsD ds).map (i :: ·)
  | _ => none
theorem intsD_is {K : PySem.W.Frag} {G : Hp} : ∀ {ds : List D} {vs : List V} {ns : List Int}, IsL K G vs ds → intsD ds = some ns → vs = ns.map V.int
  | [], _, _, h, e => by cases h; cases e; rfl
  | d :: ds, _, ns, h, e => by
    cases h with
    | cons h t =>
      cases d with
      | int i =>
        obtain ⟨ms, e1, e2⟩ := Option.map_eq_some_iff.mp (show (intsD ds).map (i :: ·) = some ns from e)
        subst e2
        rw [h.intE, intsD_is t e1]; rfl
      | _ => cases e
theorem boolsD_is {K : PySem.W.Frag} {G : Hp} : ∀ {ds : List D} {vs : List V} {ns : List Bool}, IsL K G vs ds → boolsD ds = some ns → vs = ns.map V.bl
  | [], _, _, h, e => by cases h; cases e; rfl
  | d :: ds, _, ns, h, e => by
    cases h with
    | cons h t =>
      cases d with
      | bool i =>
        obtain ⟨ms, e1, e2⟩ := Option.map_eq_some_iff.mp (show (boolsD ds).map (i :: ·) = some ns from e)
        subst e2
        rw [h.boolE, boolsD_is t e1]; rfl
      | _ => cases e
theorem strsD_is {K : PySem.W.Frag} {G : Hp} : ∀ {ds : List D} {vs : List V} {ns : List Str}, IsL K G vs ds → strsD ds = some ns → vs = ns.map V.str
  | [], _, _, h, e => by cases h; cases e; rfl
  | d :: ds, _, ns, h, e => by
    cases h with
    | cons h t =>
      cases d with
      | str i =>
        obtain ⟨ms, e1, e2⟩ := Option.map_eq_some_iff.mp (show (strsD ds).map (i :: ·) = some ns from e)
        subst e2
        rw [h.strE, strsD_is t e1]; rfl
      | _ => cases e
def oSum : D → Option T
  | .list ds => (intsD ds).map fun ns => .d (.int ns.sum)
  | _ => none
theorem cv_sum (hc : X.calm = true) : CallV1 X (.builtin "sum") oSum := fun F A G H v x t Q R h e k => by
  cases x with
  | list ds =>
    obtain ⟨ns, e1, rfl⟩ := Option.map_eq_some_iff.mp (show (intsD ds).map (fun ns => T.d (.int ns.sum)) = some t from e)
    obtain ⟨a, xs, rfl, ha, r⟩ := h.list _ rfl
    rw [intsD_is r e1] at ha
    exact CallR.go (cr_sum hc) ⟨a, ns, rfl, SqL.of ha, k.data (.int _) R⟩
  | _ => cases e
def oAll : D → Option T
  | .list ds => (boolsD ds).map fun ns => .d (.bool (ns.all id))
  | _ => none
def oAny : D → Option T
  | .list ds => (boolsD ds).map fun ns => .d (.bool (ns.any id))
  | _ => none
theorem cv_all (hc : X.calm = true) : CallV1 X (.builtin "all") oAll := fun F A G H v x t Q R h e k => by
  cases x with
  | list ds =>
    obtain ⟨ns, e1, rfl⟩ := Option.map_eq_some_iff.mp (show (boolsD ds).map (fun ns => T.d (.bool (ns.all id))) = some t from e)
    obtain ⟨a, xs, rfl, ha, r⟩ := h.list _ rfl
    rw [boolsD_is r e1] at ha
    exact CallR.go (cr_all hc) ⟨a, ns, rfl, SqL.of ha, k.data (.bl _) R⟩
  | _ => cases e
theorem cv_any (hc : X.calm = true) : CallV1 X (.builtin "any") oAny := fun F A G H v x t Q R h e k => by
  cases x with
  | list ds =>
    obtain ⟨ns, e1, rfl⟩ := Option.map_eq_some_iff.mp (show (boolsD ds).map (fun ns => T.d (.bool (ns.any id))) = some t from e)
    obtain ⟨a, xs, rfl, ha, r⟩ := h.list _ rfl
    rw [boolsD_is r e1] at ha
    exact CallR.go (cr_any hc) ⟨a, ns, rfl, SqL.of ha, k.data (.bl _) R⟩
  | _ => cases e
/-! list(x), tuple(x) -/
def oList : D → Option T
  | .list ds => some (.lst ds)
  | .tup ds => some (.lst ds)
  | .dict ks _ => some (.lst (ks.map kD))
  | _ => none
theorem kD_isL {K : PySem.W.Frag} {G : Hp} : ∀ ks : List Key, IsL K G (ks.map kV) (ks.map kD)
  | [] => .nil
  | k :: ks => .cons (kD_is k) (kD_isL ks)
theorem cv_list (hc : X.calm = true) : CallV1 X (.type "list") oList := fun F A G H v x t Q R h e k => by
  cases x with
  | list ds =>
    cases e
    obtain ⟨a, xs, rfl, ha, r⟩ := h.list _ rfl
    exact CallR.go call_list_of ⟨a, xs, rfl, .inl (SqL.of ha), fun p hp => k.lst r R hp⟩
  | tup ds =>
    cases e
    obtain ⟨a, xs, rfl, ha, r⟩ := h.tup _ rfl
    exact CallR.go call_list_of ⟨a, xs, rfl, .inr (SqT.of ha), fun p hp => k.lst r R hp⟩
  | dict ks ds =>
    cases e
    obtain ⟨a, kv, rfl, ha, hk, r⟩ := h.dict _ _ rfl
    subst hk
    refine CallR.go (call_listD hc) ⟨a, kv, rfl, ha, fun p hp => ?_⟩
    refine k.lst ?_ R hp
    have : (kv.map fun kv => kV kv.1) = (kv.map (·.1)).map kV := by rw [List.map_map]; rfl
    rw [this]
    exact kD_isL _
  | _ => cases e
def oTuple : D → Option T
  | .list ds => some (.d (.tup ds))
  | _ => none
theorem cv_tuple : CallV1 X (.type "tuple") oTuple := fun F A G H v x t Q R h e k => by
  cases x with
  | list ds =>
    cases e
    obtain ⟨a, xs, rfl, ha, r⟩ := h.list _ rfl
    exact CallR.go call_tuple_of ⟨a, xs, rfl, .inl ⟨SqL.of ha, fun p hp => k.tup r R hp⟩⟩
  | _ => cases e
end
end Dn

namespace Dn
open PySem PySem.Spec PyProof.Rows L2
/-! ### isinstance -/
def tyD : D → Option String
  | .none => some "NoneType"
  | .bool _ => some "bool"
  | .int _ => some "int"
  | .str _ => some "str"
  | .list _ => some "list"
  | .tup _ => some "tuple"
  | .dict _ _ => some "dict"
  | .dictT _ _ => some "dict"
  | _ => none
theorem tyD_vw {K : PySem.W.Frag} {G H : Hp} {v : V} {x : D} {T : String} (h : Vw K G H v x) (e : tyD x = some T) (nd : ∀ ks ds, x ≠ .dictT ks ds) : TyX K H v (.type T) := by
  cases x with
  | none => cases e; rw [h.none rfl]; exact .base .non
  | bool => cases e; rw [h.bool _ rfl]; exact .base (.bl _)
  | int => cases e; rw [h.int _ rfl]; exact .base (.int _)
  | str => cases e; rw [h.str _ rfl]; exact .base (.str _)
  | list => cases e; obtain ⟨a, xs, rfl, ha, _⟩ := h.list _ rfl; exact .base (.lst ha)
  | tup => cases e; obtain ⟨a, xs, rfl, ha, _⟩ := h.tup _ rfl; exact .base (.tup ha)
  | dict ks ds =>
    cases e
    obtain ⟨a, kv, rfl, ha, _⟩ := h.dict _ _ rfl
    rcases ha with ha | ⟨o, ha⟩
    · exact .base (.dK ha)
    · exact .fDict ha
  | dictT ks ds => exact absurd rfl (nd ks ds)
  | _ => cases e
def notT : D → Bool
  | .dictT _ _ => false
  | _ => true
theorem notT_ne {x : D} (h : notT x = true) : ∀ ks ds, x ≠ .dictT ks ds := fun ks ds e => by subst e; cases h
/-- isinstance(x, T), T built-in -/
def isaD (T : String) (x : D) : Option Bool := if notT x = true then (tyD x).bind fun t => kitB t T else none
def isaL (x : D) : List String → Option Bool
  | [] => some false
  | T :: Ts => (isaD T x).bind fun b => (isaL x Ts).map fun c => b || c
section
variable {X : Cx} {W : WX} {F : Fm} {ps : List V} {σ : L2.St} {G H : Hp} {A : List Addr} {env : Ev} {e e2 : Expr} {es : List Expr} {d : Ev → Rs D} {x2 : Str} {T : String} {p p2 pos : Pos} {k1 : Nat}
def dIsa (T : String) (d : Ev → Rs D) : DE := fun env => (d env).bind fun x env => match isaD T x with
  | some b => .ok (.d (.bool b)) env
  | none => .stuck
theorem SE.isa (hm : X.mg "isinstance" = none) (hm2 : X.mg x2 = none) (hv : bootBuiltins x2 = some (.type T)) (hg : Gl X "isinstance") (hg2 : Gl X x2) (hn2 : x2 ≠ "__name__") (hd2 : (x2 == ("__debug__" : Str)) = false) (he : starEach [e, .Name x2 p2] X.env = (false, eval e X.env) :: starEach [.Name x2 p2] X.env) (he2 : starEach [.Name x2 p2] X.env = (false, eval (.Name x2 p2) X.env) :: starEach [] X.env) (hpl : (backTo pos (starEach [.Name x2 p2] X.env)).any (·.1) = false)
    (h : SV X W e d) : SE X W (.Call (.Name "isinstance" p) [e, .Name x2 p2] [] pos) (dIsa T d) := fun F ps σ G H A Q env I R P =>
  PE.go (pe_callB call_isi hg hm boot_isinstance (pa_cons pe_run (pa_cons (pe_bltn (v := .ty T) hg2 hm2 hv rfl hn2 hd2) pa_nil he2) he) (by decide) (by decide) he hpl) (h.seq I R P fun x env1 v G1 H1 A1 s1 I1 i1 R1 P1 => by
    unfold isaD at P1
    by_cases hz : notT x = true
    · rw [if_pos hz] at P1
      cases q : tyD x with
      | none => rw [q] at P1; exact P1.elim
      | some t =>
        rw [q] at P1
        cases q2 : kitB t T with
        | none =>
          have : (some t).bind (fun t => kitB t T) = none := q2
          rw [this] at P1; exact P1.elim
        | some b =>
          have : (some t).bind (fun t => kitB t T) = some b := q2
          rw [this] at P1
          exact ⟨v, .ty T, _, .type T, b, rfl, .ty T, tyD_vw i1 q (notT_ne hz), kit_ty q2, P1 _ G1 H1 A1 [] s1 I1 (.d (.bl b)) R1⟩
    · rw [if_neg hz] at P1; exact P1.elim)
/-- .. of a tuple of built-in types -/
def isaLs (x : D) (Ts : List String) : Option Bool := if notT x = true then (tyD x).bind fun _ => isaL x Ts else none
def dIsaL (Ts : List String) (d : Ev → Rs D) : DE := fun env => (d env).bind fun x env => match isaLs x Ts with
  | some b => .ok (.d (.bool b)) env
  | none => .stuck
end
end Dn
namespace Dn
open PySem PySem.Spec PyProof.Rows L2
theorem Vw.new {K : PySem.W.Frag} {G H : Hp} {v : V} {x : D} {q : Addr} {o : HO} (h : Vw K G H v x) (hq : H q = Option.none) : Vw K G (upd H q o) v x where
  none := h.none
  bool := h.bool
  int := h.int
  str := h.str
  list := fun ds e => let ⟨a, xs, e, ha, r⟩ := h.list ds e; ⟨a, xs, e, by rw [upd_ne (ne_of_none ha hq)]; exact ha, r⟩
  tup := fun ds e => let ⟨a, xs, e, ha, r⟩ := h.tup ds e; ⟨a, xs, e, by rw [upd_ne (ne_of_none ha hq)]; exact ha, r⟩
  dict := fun ks ds e => let ⟨a, kv, e, ha, hk, r⟩ := h.dict ks ds e; ⟨a, kv, e, ha.elim (fun z => .inl (by rw [upd_ne (ne_of_none z hq)]; exact z)) fun ⟨o, z⟩ => .inr ⟨o, by rw [upd_ne (ne_of_none z hq)]; exact z⟩, hk, r⟩
  dictT := fun ks ds e => let ⟨a, kv, e, ha, hk, r⟩ := h.dictT ks ds e; ⟨a, kv, e, ha.elim (fun z => .inl (by rw [upd_ne (ne_of_none z hq)]; exact z)) fun ⟨o, z⟩ => .inr ⟨o, by rw [upd_ne (ne_of_none z hq)]; exact z⟩, hk, r⟩
  inst := fun C ns ds e => let ⟨a, dx, fs, e, ha, hn⟩ := h.inst C ns ds e; ⟨a, dx, fs, e, by rw [upd_ne (ne_of_none ha hq)]; exact ha, hn⟩
  scr := fun ns e => by
    obtain ⟨a, e, ha⟩ := h.scr ns e
    refine ⟨a, e, ?_⟩
    rcases ha with (ha | ⟨o, ha⟩) | ha
    · exact .inl (.inl (by rw [upd_ne (ne_of_none ha hq)]; exact ha))
    · exact .inl (.inr ⟨o, by rw [upd_ne (ne_of_none ha hq)]; exact ha⟩)
    · exact .inr ha
  val := h.val
theorem isaL_kit {K : PySem.W.Frag} {x : D} {t : String} (hz : notT x = true) (ht : tyD x = some t) : ∀ {Ts : List String} {b : Bool}, isaL x Ts = some b → PySem.W.kitAny K (.type t) (Ts.map Value.type) = some b
  | [], b, e => by cases e; rfl
  | T :: Ts, b, e => by
    unfold isaL isaD at e
    rw [if_pos hz, ht] at e
    obtain ⟨b1, e1, e2⟩ := Option.bind_eq_some_iff.mp e
    obtain ⟨c, e3, e4⟩ := Option.map_eq_some_iff.mp e2
    refine kitAny_cons (kit_ty e1) (fun hb => ?_) (fun hb => ?_)
    · subst hb
      have ih := isaL_kit (K := K) hz ht e3
      rw [← e4, Bool.false_or]; exact ih
    · subst hb; rw [← e4]; rfl
inductive TyNames (X : Cx) : List Expr → List String → Prop
  | nil : TyNames X [] []
  | cons {x : Str} {p : Pos} {T : String} {es : List Expr} {Ts : List String} (hm : X.mg x = none) (hv : bootBuiltins x = some (.type T)) (hg : Gl X x) (hn : x ≠ "__name__") (hd : (x == ("__debug__" : Str)) = false)
      (he : starEach (.Name x p :: es) X.env = (false, eval (.Name x p) X.env) :: starEach es X.env) (t : TyNames X es Ts) : TyNames X (.Name x p :: es) (T :: Ts)
theorem TyNames.pa {X : Cx} {es : List Expr} {Ts : List String} (h : TyNames X es Ts) : PA X es (fun σ H Q => Q (Ts.map V.ty) H) := by
  induction h with
  | nil => exact ⟨fun pos pins s σ H Q I q => pa_nil.run pos pins s σ H Q I q⟩
  | @cons x p T es Ts hm hv hg hn hd he t ih =>
    exact ⟨fun pos pins s σ H Q I q => (pa_cons (pe_bltn (v := .ty T) hg hm hv rfl hn hd) ih he).run pos pins s σ H Q I q⟩
theorem tys_paired : ∀ Ts : List String, Paired ClsV (Ts.map V.ty) (Ts.map Value.type)
  | [] => .nil
  | T :: Ts => .cons (.ty T) (tys_paired Ts)
section
variable {X : Cx} {W : WX} {F : Fm} {ps : List V} {σ : L2.St} {G H : Hp} {A : List Addr} {env : Ev} {e e2 e3 tg : Expr} {es : List Expr} {d : Ev → Rs D} {x x2 m : Str} {T : String} {p p2 pos apos cpos tp : Pos} {k1 : Nat} {Ts : List String} {i : Nat} {pa : Path} {dv : DE}
theorem SE.isaT (hm : X.mg "isinstance" = none) (hg : Gl X "isinstance") (hz : Ts.length ≤ sizeLine) (he : starEach [e, .Tuple es k1 p2] X.env = (false, eval e X.env) :: starEach [.Tuple es k1 p2] X.env) (he2 : starEach [.Tuple es k1 p2] X.env = (false, eval (.Tuple es k1 p2) X.env) :: starEach [] X.env) (hpl : (backTo pos (starEach [.Tuple es k1 p2] X.env)).any (·.1) = false)
    (ht : TyNames X es Ts) (h : SV X W e d) : SE X W (.Call (.Name "isinstance" p) [e, .Tuple es k1 p2] [] pos) (dIsaL Ts d) := fun F ps σ G H A Q env I R P =>
  PE.go (pe_callB call_isiT hg hm boot_isinstance (pa_cons pe_run (pa_cons (pe_tup ht.pa) pa_nil he2) he) (by decide) (by decide) he hpl) (h.seq I R P fun x env1 v G1 H1 A1 s1 I1 i1 R1 P1 => by
    cases q3 : isaLs x Ts with
    | none => rw [q3] at P1; exact P1.elim
    | some b =>
      rw [q3] at P1
      refine ⟨by rw [List.length_map]; exact hz, fun q hq => ?_⟩
      have s2 := Same.new (o := .tup (Ts.map V.ty)) R1.gh hq
      have kk : Q (.bl b) (upd H1 q (.tup (Ts.map V.ty))) := P1 _ _ _ A1 [] (s1.trans s2) (I1.up s2 (upd_off (R1.ne hq))) (.d (.bl b)) (R1.new hq)
      unfold isaLs at q3
      by_cases hz2 : notT x = true
      · rw [if_pos hz2] at q3
        obtain ⟨t, q2, q4⟩ := Option.bind_eq_some_iff.mp q3
        exact ⟨v, q, _, .type t, _, b, rfl, upd_same, tys_paired Ts, tyD_vw (i1.new hq) q2 (notT_ne hz2), isaL_kit hz2 q2 q4, kk⟩
      · rw [if_neg hz2] at q3; cases q3)
/-! ### slices -/
def cutD (ds : List D) (lo hi : Option Int) : List D := (ds.drop (HT.sIx ds.length 0 lo)).take (HT.sIx ds.length ds.length hi - HT.sIx ds.length 0 lo)
def sliceD (lo hi : Option Int) : D → Option Dn.T
  | .list ds => some (.lst (cutD ds lo hi))
  | .scr ns => some (.lst (cutD (ns.map .int) lo hi))
  | .tup ds => if HT.sIx ds.length 0 lo = 0 ∧ HT.sIx ds.length ds.length hi = ds.length then none else some (.d (.tup (cutD ds lo hi)))
  | .str z => if z.length ≤ sizeLine then some (.d (.str (cutS z lo hi))) else none
  | _ => none
theorem cut_is {K : PySem.W.Frag} {vs : List V} {ds : List D} (r : IsL K G vs ds) (lo hi : Option Int) : IsL K G (cutV vs lo hi) (cutD ds lo hi) := by
  unfold cutV cutD
  rw [r.length]
  exact (r.drop _).take _
def SO (X : Cx) (W : WX) (e : Option Expr) (d : Ev → Rs (Option Int)) : Prop :=
  ∀ F ps σ G H A (Q : Option Int → Hp → Prop) env, EvIs X.K G H ps σ env A → Rel F G H A → (d env).post (fun o env' => ∀ G' H' A', Same G G' → EvIs X.K G' H' ps σ env' A' → Rel F G' H' A' → Q o H') (exP X W F ps G) →
    ∀ (pins : List (Addr × Obj)) (s : Shared), Inv X pins σ H s → wpAny (model X.prog X.w) X.A (evalPart e X.env) (fun u s' => ∃ o H', Inv X pins σ H' s' ∧ IsPart u o ∧ Q o H') X.xe s
def RunO' (X : Cx) (e : Option Expr) (σ : L2.St) (H : Hp) (Q : Option Int → Hp → Prop) : Prop := ∀ (pins : List (Addr × Obj)) (s : Shared), Inv X pins σ H s → wpAny (model X.prog X.w) X.A (evalPart e X.env) (fun u s' => ∃ o H', Inv X pins σ H' s' ∧ IsPart u o ∧ Q o H') X.xe s
theorem po_run {e : Option Expr} : PO X e (RunO' X e) := ⟨fun pins s _ _ _ I h => h pins s I⟩
def oNo : Ev → Rs (Option Int) := fun env => .ok none env
def oSm (d : DE) : Ev → Rs (Option Int) := fun env => (d env).bindD fun x env => match x with
  | .int i => .ok (some i) env
  | _ => .stuck
theorem SO.none : SO X W Option.none oNo := fun F ps σ G H A Q env I R P pins s J => po_none.run pins s σ H Q J (P G H A (Same.refl G) I R)
theorem SO.some {d : DE} (h : SE X W e d) : SO X W (Option.some e) (oSm d) := fun F ps σ G H A Q env I R P pins s J =>
  (po_some pe_run).run pins s σ H Q J (h.seqD I R P fun x env1 v G1 H1 A1 s1 I1 i1 R1 P1 => by
    cases x with
    | int i => exact ⟨i, i1.intE, P1 G1 H1 A1 s1 I1 R1⟩
    | _ => exact P1.elim)
def dSl (d : DE) (lo hi : Ev → Rs (Option Int)) : DE := fun env => (d env).bindD fun x env => (lo env).bind fun l env => (hi env).bind fun u env => ofO (sliceD l u x) env
/-- the slices of a list, of a tuple, of a text -/
def rSlA (K : PySem.W.Frag) : V → Option Int → Option Int → Hp → VK → Prop := fun x lo hi H Q => rSlL K x lo hi H Q ∨ rSlT K x lo hi H Q ∨ rSlS x lo hi H Q
theorem sl_any : SlR X (rSlA X.K) := SlR.or sl_list (SlR.or sl_tup sl_str)
theorem SO.seq {β : Type} {ok : β → Ev → Prop} {e : Option Expr} {d : Ev → Rs (Option Int)} {K1 : Option Int → Hp → Prop} (h : SO X W e d) {f : Option Int → Ev → Rs β} (I : EvIs X.K G H ps σ env A) (R : Rel F G H A) (P : ((d env).bind f).post ok (exP X W F ps G))
    (k : ∀ b env' G' H' A', Same G G' → EvIs X.K G' H' ps σ env' A' → Rel F G' H' A' → (f b env').post ok (exP X W F ps G') → K1 b H') : RunO' X e σ H K1 := by
  refine h F ps σ G H A K1 env I R ?_
  cases q : d env with
  | ok t env' =>
    rw [q] at P
    exact fun G' H' A' s I' R' => k t env' G' H' A' s I' R' (post_up s P)
  | exc c fs env' => rw [q] at P; exact P
  | stuck => rw [q] at P; exact P
theorem SE.slice {d : DE} {lo hi : Option Expr} {dl dh : Ev → Rs (Option Int)} (h : SE X W e d) (hl : SO X W lo dl) (hh : SO X W hi dh) : SE X W (.Subscript e (.Slice lo hi Option.none p2) pos) (dSl d dl dh) := fun F ps σ G H A Q env I R P =>
  PE.go (pe_slice sl_any pe_run po_run po_run) (h.seqD I R P fun x env1 v G1 H1 A1 s1 I1 i1 R1 P1 => hl.seq I1 R1 P1 fun l env2 G2 H2 A2 s2 I2 R2 P2 => hh.seq I2 R2 P2 fun u env3 G3 H3 A3 s3 I3 R3 P3 => by
    have i3 := (i1.up s2).up s3
    cases x with
    | scr ns =>
      cases i3 with
      | scr _ h => exact .inl ⟨_, _, rfl, R3.gh.seq h, fun p hp => (okO_of I3 R3 ((s1.trans s2).trans s3) P3).lst (cut_is (IsL.of_ints ns) l u) R3 hp⟩
    | list ds =>
      obtain ⟨a, xs, rfl, ha, r⟩ := i3.listE
      exact .inl ⟨a, xs, rfl, SqL.of (R3.gh _ _ ha), fun p hp => (okO_of I3 R3 ((s1.trans s2).trans s3) P3).lst (cut_is r l u) R3 hp⟩
    | tup ds =>
      obtain ⟨a, xs, rfl, ha, r⟩ := i3.tupE
      have P3 : (ofO (if HT.sIx ds.length 0 l = 0 ∧ HT.sIx ds.length ds.length u = ds.length then Option.none else Option.some (Dn.T.d (.tup (cutD ds l u)))) env3).post (okE X F ps σ G Q) (exP X W F ps G3) := P3
      by_cases hz : HT.sIx ds.length 0 l = 0 ∧ HT.sIx ds.length ds.length u = ds.length
      · rw [if_pos hz] at P3; exact P3.elim
      · rw [if_neg hz] at P3
        exact .inr (.inl ⟨a, xs, rfl, SqT.of (R3.gh _ _ ha), by rw [r.length]; exact hz, fun p hp => (okO_of I3 R3 ((s1.trans s2).trans s3) P3).tup (cut_is r l u) R3 hp⟩)
    | str z =>
      have P3 : (ofO (if z.length ≤ sizeLine then Option.some (Dn.T.d (.str (cutS z l u))) else Option.none) env3).post (okE X F ps σ G Q) (exP X W F ps G3) := P3
      by_cases hz : z.length ≤ sizeLine
      · rw [if_pos hz] at P3
        exact .inr (.inr ⟨z, i3.strE, hz, (okO_of I3 R3 ((s1.trans s2).trans s3) P3).data (.str _) R3⟩)
      · rw [if_neg hz] at P3; exact P3.elim
    | _ => exact P3.elim)
end
end Dn

namespace Dn
open PySem PySem.Spec PyProof.Rows L2
/-! ### stores to a place -/
def hasK {κ : Type} [DecidableEq κ] (ks : List κ) (k : κ) : Bool := ks.any fun j => decide (j = k)
def repD {κ : Type} [DecidableEq κ] : List κ → List D → κ → D → List D
  | j :: ks, d :: ds, k, x => (if j = k then x else d) :: repD ks ds k x
  | _, _, _, _ => []
def putKs {κ : Type} [DecidableEq κ] (ks : List κ) (k : κ) : List κ := if hasK ks k = true then ks else ks ++ [k]
def putDs {κ : Type} [DecidableEq κ] (ks : List κ) (ds : List D) (k : κ) (x : D) : List D := if hasK ks k = true then repD ks ds k x else ds ++ [x]
theorem any_map {κ : Type} [DecidableEq κ] (kv : List (κ × V)) (k : κ) : (kv.any fun p => decide (p.1 = k)) = hasK (kv.map (·.1)) k := by
  unfold hasK; rw [List.any_map]; rfl
theorem putK_keys {κ : Type} [DecidableEq κ] (kv : List (κ × V)) (k : κ) (v : V) : (putK kv k v).map (·.1) = putKs (kv.map (·.1)) k := by
  unfold putK putKs
  rw [any_map]
  by_cases h : hasK (kv.map (·.1)) k = true
  · rw [if_pos h, if_pos h, List.map_map]
    apply List.map_congr_left
    intro p _
    show (if p.1 = k then (p.1, v) else p).1 = p.1
    split <;> rfl
  · rw [if_neg h, if_neg h, List.map_append]; rfl
theorem rep_is {κ : Type} [DecidableEq κ] {K : PySem.W.Frag} {G : Hp} {k : κ} {v : V} {x : D} (hv : Is K G v x) : ∀ {kv : List (κ × V)} {ds : List D}, IsL K G (kv.map (·.2)) ds → IsL K G ((kv.map fun p => if p.1 = k then (p.1, v) else p).map (·.2)) (repD (kv.map (·.1)) ds k x)
  | [], _, h => by cases h; exact .nil
  | p :: kv, _, h => by
    cases h with
    | cons h t =>
      rw [List.map_cons, List.map_cons, List.map_cons]
      unfold repD
      refine .cons ?_ (rep_is hv t)
      by_cases e : p.1 = k
      · rw [if_pos e, if_pos e]; exact hv
      · rw [if_neg e, if_neg e]; exact h
theorem putK_vals {κ : Type} [DecidableEq κ] {K : PySem.W.Frag} {G : Hp} {k : κ} {v : V} {x : D} {kv : List (κ × V)} {ds : List D} (hv : Is K G v x) (r : IsL K G (kv.map (·.2)) ds) : IsL K G ((putK kv k v).map (·.2)) (putDs (kv.map (·.1)) ds k x) := by
  unfold putK putDs
  rw [any_map]
  by_cases h : hasK (kv.map (·.1)) k = true
  · rw [if_pos h, if_pos h]; exact rep_is hv r
  · rw [if_neg h, if_neg h, List.map_append]; exact r.snoc hv
/-- t[y] = x -/
def putT : T → D → D → Option T
  | .lst ds, .int k, x => (ixN ds.length k).map fun j => .lst (ds.set j x)
  | .dict ks ds, y, x => if ks.length < 1000000 then (keyD y).map fun k => .dict (putKs ks k) (putDs ks ds k x) else none
  | .dictT ks ds, y, x => if ks.length < 1000000 then (tkeyD y).map fun k => .dictT (putKs ks k) (putDs ks ds k x) else none
  | _, _, _ => none
def RunSt (X : Cx) (o i v : V) (H : Hp) (Q : Hp → Prop) : Prop := ∀ (pins : List (Addr × Obj)) (s : Shared) (σ : L2.St) (ov iv u : Value), Inv X pins σ H s → RelV o ov → RelV i iv → RelV v u →
    wpAny (model X.prog X.w) X.A (setItem ov iv u) (fun _ s' => ∃ H', Inv X pins σ H' s' ∧ Q H') X.xe s
theorem pset_run {X : Cx} : PSet X (RunSt X) := fun pins s σ H o i v ov iv u Q I r1 r2 r3 h => h pins s σ ov iv u I r1 r2 r3
section
variable {X : Cx} {W : WX} {F : Fm} {ps : List V} {σ : L2.St} {G H : Hp} {A B : List Addr} {env : Ev} {e e2 e3 tg value : Expr} {es : List Expr} {x m f C : Str} {p p2 pos apos cpos tp : Pos} {i j : Nat} {pa : Path} {d dv : DE} {dk : Ev → Rs D}
theorem sqLine : (1000000 : Nat) < sizeLine := by decide
theorem putT_run {t u : T} {y z : D} {o k v : V} {Q : Hp → Prop} (hu : X.A.units + 64 < cLine) (s0 : Same G H) (ht : TIs X.K G H o t B) (hk : Vw X.K G H k y) (hv : Is X.K G v z) (e : putT t y z = some u) (q : ∀ a o', a ∈ B → TIs X.K G (upd H a o') o u B → Q (upd H a o')) : RunSt X o k v H Q := fun pins s σ ov iv w J r1 r2 r3 => by
  cases t with
  | lst ds =>
    cases y with
    | int n =>
      obtain ⟨jx, e1, e2⟩ := Option.map_eq_some_iff.mp (show (ixN ds.length n).map (fun j => T.lst (ds.set j z)) = some u from e)
      subst e2
      cases ht with
      | @lst a xs _ ha r =>
        exact set_list pins s σ H _ k v ov iv w Q J r1 r2 r3 ⟨a, xs, n, jx, rfl, hk.int _ rfl, ha, by rw [r.length]; exact e1, q a _ List.mem_cons_self (.lst upd_same (r.set hv))⟩
    | _ => cases e
  | dict ks ds =>
    have e : (if ks.length < 1000000 then (keyD y).map fun k => T.dict (putKs ks k) (putDs ks ds k z) else none) = some u := by cases y <;> exact e
    by_cases hz : ks.length < 1000000
    · rw [if_pos hz] at e
      obtain ⟨kk, e1, e2⟩ := Option.map_eq_some_iff.mp e
      subst e2
      cases ht with
      | @dict a kv _ _ ha hkk r =>
        subst hkk
        cases r1
        have ek := keyD_vw hk e1
        have hl : kv.length < sizeLine := by rw [List.length_map] at hz; exact Nat.lt_trans hz sqLine
        exact d_setItem (by omega) J (.inl ⟨kv, kk, ha, ek, hl, rfl⟩) r2 r3 fun s4 J4 => ⟨_, J4, q a _ List.mem_cons_self (.dict upd_same (putK_keys kv kk v) (putK_vals hv r))⟩
    · rw [if_neg hz] at e; cases e
  | dictT ks ds =>
    have e : (if ks.length < 1000000 then (tkeyD y).map fun k => T.dictT (putKs ks k) (putDs ks ds k z) else none) = some u := by cases y <;> exact e
    by_cases hz : ks.length < 1000000
    · rw [if_pos hz] at e
      obtain ⟨kk, e1, e2⟩ := Option.map_eq_some_iff.mp e
      subst e2
      cases ht with
      | @dictT a kv _ _ ha hkk r =>
        subst hkk
        cases r1
        have hl : kv.length < sizeLine := by rw [List.length_map] at hz; exact Nat.lt_trans hz sqLine
        cases y with
        | tup es =>
          obtain ⟨b, xs, rfl, hb, rb⟩ := hk.tup _ rfl
          rw [keysD_is rb e1] at hb
          exact d_setItem (by omega) J (.inr ⟨kv, kk, b, ha, rfl, hb, hl, rfl⟩) r2 r3 fun s4 J4 => ⟨_, J4, q a _ List.mem_cons_self (.dictT upd_same (putK_keys kv kk v) (putK_vals hv r))⟩
        | _ => cases e1
    · rw [if_neg hz] at e; cases e
  | _ => cases e
theorem putT_own {t u : T} {y z : D} (e : putT t y z = some u) : isD t = false := by
  cases t with
  | d => cases e
  | _ => rfl
/-- the place's tree is another: the state behind a write to one of its addresses -/
theorem place_put {u : T} {vu : V} {C0 : List Addr} {a : Addr} {o' : HO} (R : Rel F G H A) (hp : A.Perm (B ++ C0)) (ha : a ∈ B) (ht : TIs X.K G (upd H a o') vu u B)
    (rb : ∀ G' H' u' B', Same G G' → (∀ a ∈ C0, H' a = H a) → TIs X.K G' H' vu u' B' → ∃ A', EvIs X.K G' H' ps σ (setE env i pa u') A' ∧ A'.Perm (B' ++ C0)) : ∃ A', EvIs X.K G (upd H a o') ps σ (setE env i pa u) A' ∧ Rel F G (upd H a o') A' := by
  have R1 := R.perm hp
  have hn : ∀ b ∈ C0, b ≠ a := fun b hb z => R1.dj b hb (z ▸ ha)
  obtain ⟨A', e', p'⟩ := rb G _ u B (Same.refl G) (upd_off hn) ht
  exact ⟨A', e', (R1.put (List.mem_append_left _ ha)).perm p'.symm⟩
/-- an expression that changes nothing -/
def SQ (X : Cx) (e : Expr) (f : Ev → Option D) : Prop := ∀ F ps σ G H A Q env y, EvIs X.K G H ps σ env A → Rel F G H A → f env = some y → (∀ k, Vw X.K G H k y → Q k H) → RunE X e σ H Q
theorem SQ.pl (h : SPl X e i pa) : SQ X e (fun env => (getE env i pa).map T.frz) := fun F ps σ G H A Q env y I R q k => by
  obtain ⟨t, e1, rfl⟩ := Option.map_eq_some_iff.mp q
  obtain ⟨v, vu, B, C0, h1, h2, h3, h4, h5⟩ := I.place R.gh e1
  exact h σ H _ v vu h1 h2 (k vu (h3.vw R.gh))
theorem SQ.int {n : Int} {k : Nat} : SQ X (.Constant (.int n) k pos) (fun _ => some (.int n)) := fun F ps σ G H A Q env y I R q k => by
  cases q; exact PE.go pe_int (k _ ((Is.int n).vw R.gh))
theorem SQ.str {n : Str} {k : Nat} : SQ X (.Constant (.str n) k pos) (fun _ => some (.str n)) := fun F ps σ G H A Q env y I R q k => by
  cases q; exact PE.go pe_str (k _ ((Is.str n).vw R.gh))
def stO (o : Option Ev) : Rs Fw := nxO o
def dItemQ (i : Nat) (pa : Path) (f : Ev → Option D) (dv : DE) : DS := fun env => (dv env).bindD fun x env => nxO ((f env).bind fun y => (getE env i pa).bind fun t => (putT t y x).map fun u => setE env i pa u)
abbrev ItemAsg (X : Cx) (e e2 : Expr) (tp : Pos) : Prop := ∀ v, assign (.Subscript e e2 tp) X.env v = (do
      let ov ← holding [v] (eval e X.env)
      let iv ← holding [v, ov] (eval e2 X.env)
      standAt tp
      holding [v, ov, iv] (setItem ov iv v)
      release [v, ov, iv] [])
theorem SS.itemQ {f : Ev → Option D} (hu : X.A.units + 64 < cLine) (ha : ItemAsg X e e2 tp)
    (hs : swapsWithSole [.Subscript e e2 tp] value pos.line X.env = pure false) (hw : swappedStores [.Subscript e e2 tp] value X.env = pure none)
    (h1 : (assignEach [.Subscript e e2 tp] X.env).map (·.2) = [assign (.Subscript e e2 tp) X.env]) (hv : SE X W value dv) (hp : SPl X e i pa) (hk : SQ X e2 f) : SS X W (.Assign [.Subscript e e2 tp] value pos) (dItemQ i pa f dv) := fun F ps σ G H A D env I R P => by
  refine PS.go (ps_asg pe_run (pg_sub pe_run pe_run pset_run ha) hs hw h1) (hv.seqD I R P fun x env1 v G1 H1 A1 s1 I1 i1 R1 P1 => ?_)
  cases q0 : f env1 with
  | none => rw [q0] at P1; exact P1.elim
  | some y =>
    rw [q0] at P1
    cases q : getE env1 i pa with
    | none =>
      have : ((some y).bind fun y => (getE env1 i pa).bind fun t => (putT t y x).map fun u => setE env1 i pa u) = none := by rw [q]; rfl
      rw [this] at P1; exact P1.elim
    | some t =>
      cases q2 : putT t y x with
      | none =>
        have : ((some y).bind fun y => (getE env1 i pa).bind fun t => (putT t y x).map fun u => setE env1 i pa u) = none := by rw [q]; show (putT t y x).map _ = none; rw [q2]; rfl
        rw [this] at P1; exact P1.elim
      | some u =>
        have : ((some y).bind fun y => (getE env1 i pa).bind fun t => (putT t y x).map fun u => setE env1 i pa u) = some (setE env1 i pa u) := by rw [q]; show (putT t y x).map _ = _; rw [q2]; rfl
        rw [this] at P1
        obtain ⟨o, vu, B, C0, g1, g2, g3, g4, g5⟩ := I1.place R1.gh q
        refine hp σ H1 _ o vu g1 g2 (hk F ps σ G1 H1 A1 _ env1 y I1 R1 q0 fun k hk' => ?_)
        refine putT_run hu R1.gh g3 hk' i1 q2 fun a w ha hT => ?_
        obtain ⟨A3, I3, R3⟩ := place_put R1 g4 ha hT (g5 (putT_own q2))
        exact P1 σ G1 _ A3 s1 I3 R3
/-! ### place.f = value -/
def putN (ns : List Str) (f : Str) : List Str := if f ∈ ns then ns else ns ++ [f]
def putL (ns : List Str) (ts : List T) (f : Str) (t : T) : List T := if f ∈ ns then setL ns ts f t else ts ++ [t]
theorem putF_names (f : Str) (v : V) : ∀ fs : List (Str × V), (putF f v fs).map (·.1) = putN (fs.map (·.1)) f
  | [] => by simp [putF, putN]
  | (g, x) :: r => by
    unfold putF
    by_cases e : g = f
    · subst e
      rw [if_pos rfl]
      simp [putN]
    · rw [if_neg e, List.map_cons, putF_names f v r]
      unfold putN
      rw [List.map_cons]
      by_cases h : f ∈ r.map (·.1)
      · rw [if_pos h, if_pos (List.mem_cons_of_mem _ h)]
      · rw [if_neg h, if_neg (fun z => (List.mem_cons.mp z).elim (fun z => e z.symm) h)]; rfl
theorem TIsL.putF {K : PySem.W.Frag} {f : Str} {v : V} {t : T} {B : List Addr} (ht : TIs K G H v t B) : ∀ {fs : List (Str × V)} {ts : List T} {A : List Addr}, TIsL K G H (fs.map (·.2)) ts A → ∃ A', TIsL K G H ((L2.putF f v fs).map (·.2)) (putL (fs.map (·.1)) ts f t) A' ∧ (∀ a ∈ A', a ∈ B ++ A) ∧ ((B ++ A).Nodup → A'.Nodup)
  | [], ts, A, h => by
    cases h
    exact ⟨B ++ [], .cons ht .nil, fun a ha => ha, fun h => h⟩
  | (g, x) :: r, [], A, h => by cases h
  | (g, x) :: r, t0 :: ts, A, h => by
    cases h with
    | @cons _ _ _ _ A1 A2 h0 hr =>
      unfold L2.putF putL
      by_cases e : g = f
      · subst e
        rw [if_pos rfl, if_pos (by simp)]
        refine ⟨B ++ A2, ?_, fun a ha => ?_, fun h => ?_⟩
        · show TIsL K G H (v :: r.map (·.2)) (if g = g then t :: ts else _) _
          rw [if_pos rfl]; exact .cons ht hr
        · rcases List.mem_append.mp ha with z | z
          · exact List.mem_append_left _ z
          · exact List.mem_append_right _ (List.mem_append_right _ z)
        · have h1 := (perm3 B A1 A2).nodup_iff.mp h
          exact (List.nodup_append.mp h1).2.1
      · rw [if_neg e]
        obtain ⟨A', a1, a2, a3⟩ := TIsL.putF ht hr
        have hmem : (f ∈ ((g, x) :: r).map (·.1)) ↔ f ∈ r.map (·.1) := by
          rw [List.map_cons, List.mem_cons]
          exact ⟨fun z => z.elim (fun z => absurd z.symm e) id, .inr⟩
        refine ⟨A1 ++ A', ?_, fun a ha => ?_, fun h => ?_⟩
        · unfold putL at a1
          by_cases hf : f ∈ r.map (·.1)
          · rw [if_pos hf] at a1
            rw [if_pos (hmem.mpr hf)]
            show TIsL K G H (x :: (L2.putF f v r).map (·.2)) (if g = f then t :: ts else t0 :: setL (r.map (·.1)) ts f t) _
            rw [if_neg e]; exact .cons h0 a1
          · rw [if_neg hf] at a1
            rw [if_neg fun z => hf (hmem.mp z)]
            exact .cons h0 a1
        · rcases List.mem_append.mp ha with z | z
          · exact List.mem_append_right _ (List.mem_append_left _ z)
          · rcases List.mem_append.mp (a2 a z) with z | z
            · exact List.mem_append_left _ z
            · exact List.mem_append_right _ (List.mem_append_right _ z)
        · have h1 := (perm3 B A1 A2).nodup_iff.mp h
          obtain ⟨b1, b2, b3⟩ := List.nodup_append.mp h1
          exact List.nodup_append.mpr ⟨b1, a3 b2, fun a ha b hb => b3 a ha b (a2 b hb)⟩
def putFld (C f : Str) (t : T) : T → Option T
  | .inst C' ns ts => if C' = C ∧ ns.length < 900 then some (.inst C' (putN ns f) (putL ns ts f t)) else none
  | _ => none
def dFld (i : Nat) (pa : Path) (C f : Str) (d : DE) : DS := fun env => (d env).bind fun t env => nxO ((getE env i pa).bind fun u => (putFld C f t u).map fun u' => setE env i pa u')
theorem SS.fld (cl : Cls X.K (He.ga X.K C)) (na : NoAttr X.K (He.ga X.K C) f) (hs : swapsWith value (some (.Attribute e f p2)) pos.line X.env = pure false) (hv : SE X W value dv) (hp : SPl X e i pa) : SS X W (.Assign [.Attribute e f p2] value pos) (dFld i pa C f dv) := fun F ps σ G H A D env I R P => by
  refine PS.go (ps_fld pe_run pe_run hs) (hv.seq I R P fun t env1 v G1 H1 A1 B1 s1 I1 i1 R1 P1 => ?_)
  cases q : getE env1 i pa with
  | none => rw [q] at P1; exact P1.elim
  | some u =>
    rw [q] at P1
    cases q2 : putFld C f t u with
    | none =>
      have : ((some u).bind fun u => (putFld C f t u).map fun u' => setE env1 i pa u') = none := by show (putFld C f t u).map _ = none; rw [q2]; rfl
      rw [this] at P1; exact P1.elim
    | some u' =>
      have : ((some u).bind fun u => (putFld C f t u).map fun u' => setE env1 i pa u') = some (setE env1 i pa u') := by show (putFld C f t u).map _ = _; rw [q2]; rfl
      rw [this] at P1
      obtain ⟨o, vu, B, C0, g1, g2, g3, g4, g5⟩ := I1.place R1.gh q
      refine hp σ H1 _ o vu g1 g2 ?_
      cases u with
      | inst C' ns ts =>
        have q2 : (if C' = C ∧ ns.length < 900 then some (T.inst C' (putN ns f) (putL ns ts f t)) else none) = some u' := q2
        by_cases hz : C' = C ∧ ns.length < 900
        · rw [if_pos hz] at q2
          cases q2
          obtain ⟨rfl, hl⟩ := hz
          cases g3 with
          | @inst a dx _ fs _ _ A0 ha hn r =>
            subst hn
            refine ⟨a, _, dx, fs, rfl, ha, cl, na, by rw [List.length_map] at hl; omega, ?_⟩
            have R2 : Rel F G1 H1 (B1 ++ ((a :: A0) ++ C0)) := R1.perm (List.Perm.append_left _ g4)
            have hB : ∀ b ∈ B1, b ≠ a := fun b hb z => R2.dj a (List.mem_append_left _ List.mem_cons_self) (z ▸ hb)
            have nd2 := (List.nodup_append.mp R2.nd).2.1
            have hA0 : ∀ b ∈ A0, b ≠ a := fun b hb z => (List.nodup_cons.mp (List.nodup_append.mp nd2).1).1 (z ▸ hb)
            have hC0 : ∀ b ∈ C0, b ≠ a := fun b hb z => (List.nodup_append.mp nd2).2.2 a List.mem_cons_self b hb z.symm
            obtain ⟨A', a1, a2, a3⟩ := TIsL.putF (f := f) i1 r
            have hA' : ∀ b ∈ A', b ≠ a := fun b hb => (List.mem_append.mp (a2 b hb)).elim (hB b) (hA0 b)
            have hT : TIs X.K G1 (upd H1 a (.ins (He.ga X.K C') dx (L2.putF f v fs))) (.ref a) (.inst C' (putN (fs.map (·.1)) f) (putL (fs.map (·.1)) ts f t)) (a :: A') :=
              .inst upd_same (putF_names f v fs) (a1.up (Same.refl _) (upd_off hA'))
            obtain ⟨A3, e3, p3⟩ := g5 rfl G1 _ _ _ (Same.refl G1) (upd_off hC0) hT
            have R3 : Rel F G1 (upd H1 a (.ins (He.ga X.K C') dx (L2.putF f v fs))) (B1 ++ ((a :: A0) ++ C0)) := R2.put (List.mem_append_right _ (List.mem_append_left _ List.mem_cons_self))
            refine P1 σ G1 _ A3 s1 e3 (Rel.perm ?_ p3.symm)
            refine R3.sub (fun b hb => ?_) ?_
            · rcases List.mem_append.mp hb with z | z
              · rcases List.mem_cons.mp z with z | z
                · exact List.mem_append_right _ (List.mem_append_left _ (z ▸ List.mem_cons_self))
                · rcases List.mem_append.mp (a2 b z) with z | z
                  · exact List.mem_append_left _ z
                  · exact List.mem_append_right _ (List.mem_append_left _ (List.mem_cons_of_mem _ z))
              · exact List.mem_append_right _ (List.mem_append_right _ z)
            · have n1 : (a :: (B1 ++ A0)).Nodup := by
                refine List.nodup_cons.mpr ⟨fun z => ?_, ?_⟩
                · rcases List.mem_append.mp z with z | z
                  · exact hB a z rfl
                  · exact hA0 a z rfl
                · have z := R2.nd
                  have z2 : (B1 ++ (a :: A0)).Nodup := by
                    rw [← List.append_assoc] at z
                    exact (List.nodup_append.mp z).1
                  exact z2.sublist (List.Sublist.append_left (List.sublist_cons_self _ _) _)
              have nB : ∀ b ∈ B1, b ∉ C0 := fun b hb z => R2.dj b (List.mem_append_right _ z) hb
              refine List.nodup_append.mpr ⟨List.nodup_cons.mpr ⟨fun z => hA' a z rfl, a3 (List.nodup_cons.mp n1).2⟩, (List.nodup_append.mp nd2).2.1, fun b hb c hc z => ?_⟩
              subst z
              rcases List.mem_cons.mp hb with z | z
              · exact hC0 b hc z
              · rcases List.mem_append.mp (a2 b z) with z | z
                · exact nB b z hc
                · exact (List.nodup_append.mp nd2).2.2 b (List.mem_cons_of_mem _ z) b hc rfl
        · rw [if_neg hz] at q2; cases q2
      | _ => cases q2
end
end Dn

namespace Dn
open PySem PySem.Spec PyProof.Rows L2
/-! ### append, extend, pop -/
section
variable {X : Cx} {W : WX} {F : Fm} {ps : List V} {σ : L2.St} {G H : Hp} {A B : List Addr} {env : Ev} {e e2 e3 tg value : Expr} {es : List Expr} {x m f C : Str} {p p2 pos apos cpos tp : Pos} {i j : Nat} {pa : Path} {d dv : DE} {dk : Ev → Rs D}
abbrev Few (X : Cx) (cpos : Pos) (e : Expr) (es : List Expr) : Prop := ((backTo cpos (starEach (e :: es) X.env)).all (fun x => !x.1) && (backToKw cpos (keywordEach [] X.env)).all (fun x => x.1.isSome)
      && decide ((e :: es).length + ([] : List Keyword).length + (if ([] : List Keyword).isEmpty then 0 else 1) < 30)) = true
def appT (x : D) : T → Option T
  | .lst ds => if ds.length < 1000000 then some (.lst (ds ++ [x])) else none
  | _ => none
def extT (x : D) : T → Option T
  | .lst ds => match x with
    | .list es => if ds.length + es.length < 1000000 then some (.lst (ds ++ es)) else none
    | _ => none
  | _ => none
/-- name.append(e), name.extend(e) -/
def isLst : Option T → Bool
  | some (.lst _) => true
  | _ => false
def dMut (o : D → T → Option T) (i : Nat) (d : DE) : DE := fun env => if isLst (getE env i []) = true then (d env).bindD fun x env => match (getE env i []).bind (o x) with
    | some u => .ok (.d .none) (setE env i [] u)
    | none => .stuck else .stuck
theorem isLst_of {o : Option T} (h : isLst o = true) : ∃ ds, o = some (.lst ds) := by
  cases o with
  | none => cases h
  | some t =>
    cases t with
    | lst ds => exact ⟨ds, rfl⟩
    | _ => cases h
theorem ty_lst {K : PySem.W.Frag} {o : V} {ds : List D} (h : TIs K G H o (.lst ds) B) : tyV K "list" o H := by
  cases h with
  | lst h r => exact .inl ⟨rfl, _, SqL.of h⟩
theorem mut_run {o : D → T → Option T} {rr : V → List V → Hp → VK → Prop} (hp : SPl X e i []) (h : SE X W e2 d)
    (ho : ∀ (F : Fm) (G H : Hp) (A B C0 : List Addr) (w v : V) (ds : List D) (x : D) (u : T) (Q : VK), Rel F G H A → A.Perm (B ++ C0) → TIs X.K G H w (.lst ds) B → Is X.K G v x → o x (.lst ds) = some u → (∀ a o', a ∈ B → TIs X.K G (upd H a o') w u B → Q .non (upd H a o')) → rr w [v] H Q)
    (hn : ∀ x t u, o x t = some u → ∃ ds, t = .lst ds) {Q : VK} (I : EvIs X.K G H ps σ env A) (R : Rel F G H A) (P : (dMut o i d env).post (okE X F ps σ G Q) (exP X W F ps G)) :
    RunE X e σ H fun w H1 => tyV X.K "list" w H1 ∧ RunE X e2 σ H1 fun v H2 => rr w [v] H2 Q := by
  unfold dMut at P
  by_cases hl : isLst (getE env i []) = true
  · rw [if_pos hl] at P
    obtain ⟨ds0, q0⟩ := isLst_of hl
    obtain ⟨o', vu, B0, C0, g1, g2, g3, g4, g5⟩ := I.place R.gh q0
    refine hp σ H _ o' vu g1 g2 ?_
    cases g2
    refine ⟨ty_lst g3, h.seqD I R P fun x env1 v G1 H1 A1 s1 I1 i1 R1 P1 => ?_⟩
    cases q : (getE env1 i []).bind (o x) with
    | none => rw [q] at P1; exact P1.elim
    | some u =>
      rw [q] at P1
      obtain ⟨t, e1, e2'⟩ := Option.bind_eq_some_iff.mp q
      obtain ⟨ds, rfl⟩ := hn x t u e2'
      obtain ⟨o'', vu', B1, C1, k1, k2, k3, k4, k5⟩ := I1.place R1.gh e1
      rw [g1] at k1
      cases k1
      cases k2
      refine ho F G1 H1 A1 B1 C1 _ v ds x u Q R1 k4 k3 i1 e2' fun a w ha hT => ?_
      obtain ⟨A3, I3, R3⟩ := place_put R1 k4 ha hT (k5 rfl)
      exact P1 .non G1 _ A3 [] s1 I3 (.d .non) R3
  · rw [if_neg hl] at P; exact P.elim
theorem SE.append (hb : attributeBase e "append" X.env (eval e X.env) = eval e X.env) (hfew : Few X cpos e2 []) (hl : (apos.endLine == cpos.line) = true) (hs : starEach [e2] X.env = (false, eval e2 X.env) :: starEach [] X.env) (hpl : (backTo cpos (starEach [] X.env)).any (·.1) = false)
    (hp : SPl X e i []) (h : SE X W e2 d) : SE X W (.Call (.Attribute e "append" apos) [e2] [] cpos) (dMut appT i d) := fun F ps σ G H A Q env I R P =>
  PE.go (pe_bm PySem.F.plainAttrs_list PySem.F.slot_list_append PySem.F.type_list_append mt_append pe_run (pa_cons pe_run pa_nil hs) hb hfew hl hs hpl) (mut_run (rr := rAppend) hp h (fun F G H A B C0 w v ds x u Q R hpm ht hi e k => by
    have e : (if ds.length < 1000000 then some (T.lst (ds ++ [x])) else none) = some u := e
    by_cases hz : ds.length < 1000000
    · rw [if_pos hz] at e
      cases e
      cases ht with
      | @lst a xs _ ha r => exact ⟨a, xs, v, rfl, rfl, ha, by rw [r.length]; exact Nat.lt_trans hz sqLine, k a _ List.mem_cons_self (.lst upd_same (r.snoc hi))⟩
    · rw [if_neg hz] at e; cases e) (fun x t u e => by cases t <;> first | exact ⟨_, rfl⟩ | cases e) I R P)
theorem SE.extend (hb : attributeBase e "extend" X.env (eval e X.env) = eval e X.env) (hfew : Few X cpos e2 []) (hl : (apos.endLine == cpos.line) = true) (hs : starEach [e2] X.env = (false, eval e2 X.env) :: starEach [] X.env) (hpl : (backTo cpos (starEach [] X.env)).any (·.1) = false)
    (hp : SPl X e i []) (h : SE X W e2 d) : SE X W (.Call (.Attribute e "extend" apos) [e2] [] cpos) (dMut extT i d) := fun F ps σ G H A Q env I R P =>
  PE.go (pe_bm PySem.F.plainAttrs_list PySem.F.slot_list_extend PySem.F.type_list_extend mt_extend pe_run (pa_cons pe_run pa_nil hs) hb hfew hl hs hpl) (mut_run (rr := rExtend) hp h (fun F G H A B C0 w v ds x u Q R hpm ht hi e k => by
    cases x with
    | list es' =>
      have e : (if ds.length + es'.length < 1000000 then some (T.lst (ds ++ es')) else none) = some u := e
      by_cases hz : ds.length + es'.length < 1000000
      · rw [if_pos hz] at e
        cases e
        cases ht with
        | @lst a xs _ ha r =>
          obtain ⟨b, zs, rfl, hb, rb⟩ := hi.listE
          exact ⟨a, b, xs, zs, rfl, rfl, ha, R.gh _ _ hb, by rw [r.length, rb.length]; exact Nat.le_of_lt (Nat.lt_trans hz sqLine), k a _ List.mem_cons_self (.lst upd_same (r.app rb))⟩
      · rw [if_neg hz] at e; cases e
    | _ => cases e) (fun x t u e => by cases t <;> first | exact ⟨_, rfl⟩ | cases e) I R P)
/-- place.pop() -/
def dPop (i : Nat) (pa : Path) : DE := fun env => match getE env i pa with
  | some (.lst ds) => match ds[ds.length - 1]? with
    | some x => .ok (.d x) (setE env i pa (.lst ds.dropLast))
    | none => .stuck
  | _ => .stuck
theorem isL_dropLast {K : PySem.W.Frag} {xs : List V} {ds : List D} (r : IsL K G xs ds) : IsL K G xs.dropLast ds.dropLast := by
  rw [List.dropLast_eq_take, List.dropLast_eq_take, r.length]
  exact r.take _
theorem SE.pop (hb : attributeBase e "pop" X.env (eval e X.env) = eval e X.env) (hl : (apos.endLine == cpos.line) = true) (hp : SPl X e i pa) : SE X W (.Call (.Attribute e "pop" apos) [] [] cpos) (dPop i pa) := fun F ps σ G H A Q env I R P => by
  refine PE.go (pe_bm0 PySem.F.plainAttrs_list PySem.F.slot_list_pop PySem.F.type_list_pop mt_pop pe_run hb hl) ?_
  unfold dPop at P
  cases q : getE env i pa with
  | none => rw [q] at P; exact P.elim
  | some t =>
    rw [q] at P
    cases t with
    | lst ds =>
      dsimp only at P
      cases q2 : ds[ds.length - 1]? with
      | none => rw [q2] at P; exact P.elim
      | some x =>
        rw [q2] at P
        obtain ⟨o, vu, B, C0, g1, g2, g3, g4, g5⟩ := I.place R.gh q
        refine hp σ H _ o vu g1 g2 ⟨ty_lst g3, ?_⟩
        cases g3 with
        | @lst a xs _ ha r =>
          obtain ⟨v, ev, iv⟩ := r.at q2
          refine ⟨a, xs, v, rfl, rfl, ha, by rw [r.length]; exact ev, ?_⟩
          obtain ⟨A3, I3, R3⟩ := place_put (o' := .lst xs.dropLast) R g4 List.mem_cons_self (.lst upd_same (isL_dropLast r)) (g5 rfl)
          exact P v G _ A3 [] (Same.refl G) I3 (.d iv) R3
    | _ => exact P.elim
/-- place.append(name), the name data -/
def SQI (X : Cx) (e : Expr) (f : Ev → Option D) : Prop := ∀ F ps σ G H A Q env y, EvIs X.K G H ps σ env A → Rel F G H A → f env = some y → (∀ k, Is X.K G k y → Q k H) → RunE X e σ H Q
def dSlot (i : Nat) : Ev → Option D := fun env => match treeS (getS env i) with
  | some (.d x) => some x
  | _ => none
theorem SQI.name (hN : X.N[i]? = some x) (hv : visB X.env.scope x = true) (hd : (x == ("__debug__" : Str)) = false) (hcd : (x == ("__classdict__" : Str)) = false) : SQI X (.Name x pos) (dSlot i) := fun F ps σ G H A Q env y I R q k => by
  unfold dSlot at q
  cases q0 : treeS (getS env i) with
  | none => rw [q0] at q; cases q
  | some t =>
    rw [q0] at q
    cases t with
    | d z =>
      cases q
      obtain ⟨v, B, C, h1, h2, _, _⟩ := I.tree q0
      cases h2 with
      | d h2 => exact PE.go (pe_var hN (vis_of hv) hd hcd) ⟨v, h1, k v h2⟩
    | _ => cases q
def dAppQ (i : Nat) (pa : Path) (f : Ev → Option D) : DE := fun env => match (f env).bind fun x => (getE env i pa).bind (appT x) with
  | some u => .ok (.d .none) (setE env i pa u)
  | none => .stuck
theorem SE.appendQ {f : Ev → Option D} (hb : attributeBase e "append" X.env (eval e X.env) = eval e X.env) (hfew : Few X cpos e2 []) (hl : (apos.endLine == cpos.line) = true) (hs : starEach [e2] X.env = (false, eval e2 X.env) :: starEach [] X.env) (hpl : (backTo cpos (starEach [] X.env)).any (·.1) = false)
    (hp : SPl X e i pa) (h : SQI X e2 f) : SE X W (.Call (.Attribute e "append" apos) [e2] [] cpos) (dAppQ i pa f) := fun F ps σ G H A Q env I R P => by
  refine PE.go (pe_bm PySem.F.plainAttrs_list PySem.F.slot_list_append PySem.F.type_list_append mt_append pe_run (pa_cons pe_run pa_nil hs) hb hfew hl hs hpl) ?_
  unfold dAppQ at P
  cases q : (f env).bind fun x => (getE env i pa).bind (appT x) with
  | none => rw [q] at P; exact P.elim
  | some u =>
    rw [q] at P
    obtain ⟨x, e1, e2'⟩ := Option.bind_eq_some_iff.mp q
    obtain ⟨t, e3, e4⟩ := Option.bind_eq_some_iff.mp e2'
    cases t with
    | lst ds =>
      have e4 : (if ds.length < 1000000 then some (T.lst (ds ++ [x])) else none) = some u := e4
      by_cases hz : ds.length < 1000000
      · rw [if_pos hz] at e4
        cases e4
        obtain ⟨o, vu, B, C0, g1, g2, g3, g4, g5⟩ := I.place R.gh e3
        refine hp σ H _ o vu g1 g2 ⟨ty_lst g3, h F ps σ G H A _ env x I R e1 fun v hi => ?_⟩
        cases g3 with
        | @lst a xs _ ha r =>
          refine ⟨a, xs, v, rfl, rfl, ha, by rw [r.length]; exact Nat.lt_trans hz sqLine, ?_⟩
          obtain ⟨A3, I3, R3⟩ := place_put (o' := .lst (xs ++ [v])) R g4 List.mem_cons_self (.lst upd_same (r.snoc hi)) (g5 rfl)
          exact P .non G _ A3 [] (Same.refl G) I3 (.d .non) R3
      · rw [if_neg hz] at e4; cases e4
    | _ => cases e4
end
/-! ### methods, properties, classes -/
section
variable {X : Cx} {W : WX} {e o : Expr} {es : List Expr} {pos p apos cpos : Pos} {x m C : Str} {k n i : Nat} {dvs : List V} {qs : List Str} {Fn' : Fn} {ds : Ev → Rs (List D)} {d : DE} {pl : Sem Bool} {pa : Path}
/-- the instance that a method is called of: it has no attribute of that name -/
def instOk (C m : Str) : D → Bool
  | .inst C' ns _ => decide (C' = C) && decide (m ∉ ns)
  | _ => false
theorem not_lookup {fs : List (Str × V)} {m : Str} (h : m ∉ fs.map (·.1)) : fs.lookup m = none := by
  induction fs with
  | nil => rfl
  | cons p fs ih =>
    obtain ⟨n, v⟩ := p
    rw [List.map_cons, List.mem_cons] at h
    have hb : (m == n) = false := beq_eq_false_iff_ne.mpr fun z => h (.inl z)
    rw [List.lookup_cons, hb]
    exact ih fun z => h (.inr z)
theorem instOk_is {K : PySem.W.Frag} {G : Hp} {v : V} {y : D} (h : Is K G v y) (e : instOk C m y = true) : ∃ a dx fs, v = .ref a ∧ G a = some (.ins (He.ga K C) dx fs) ∧ fs.lookup m = none := by
  cases y with
  | inst C' ns ds =>
    obtain ⟨e1, e2⟩ := (Bool.and_eq_true _ _).mp e
    have e1 := of_decide_eq_true e1
    have e2 := of_decide_eq_true e2
    subst e1
    obtain ⟨a, dx, fs, rfl, ha, hn, r⟩ := h.instE
    exact ⟨a, dx, fs, rfl, ha, not_lookup (hn ▸ e2)⟩
  | _ => cases e
/-- o.m(e, ..), data alone -/
def dMethP (C m : Str) (Fn' : Fn) (n : Nat) (dvs : List V) (d : DE) (ds : Ev → Rs (List D)) : DE := fun env => (d env).bindD fun y env => if instOk C m y = true then (ds env).bind fun xs env => callP Fn' n dvs (y :: xs) env else .stuck
abbrev MethEq (X : Cx) (o : Expr) (m : Str) (apos cpos : Pos) (es : List Expr) (pl : Sem Bool) : Prop := eval (.Call (.Attribute o m apos) es [] cpos) X.env = (do
      let ov ← eval o X.env
      standAt apos.atName
      let (f, first) ← holding [ov] (getMethod ov m pl)
      callWith cpos f first (backTo cpos (starEach es X.env)) (backToKw cpos (keywordEach [] X.env)))
theorem SE.methP (tk : Takes X W) (hr : Room k X.A) (hgd : X.A.guards = some []) (D' : DefM X.prog X.w X.K X.mg X.base C m k qs dvs (spF X.K (List.replicate n false) Fn')) (he : starEach (e :: es) X.env = (false, eval e X.env) :: starEach es X.env) (hpl : (backTo cpos (starEach es X.env)).any (·.1) = false)
    (ht : MethEq X o m apos cpos (e :: es) pl) (h : SE X W o d) (ha : SA X W (e :: es) ds) : SE X W (.Call (.Attribute o m apos) (e :: es) [] cpos) (dMethP C m Fn' n dvs d ds) := fun F ps σ G H A Q env I R P => .of fun pins s J => by
  let K1 : VK := fun v H1 => ∀ (u : Value) (s1 : Shared), Inv X pins σ H1 s1 → RelV v u → wpAny (model X.prog X.w) X.A (getMethod u m pl) (fun z s2 => wpAny (model X.prog X.w) X.A (callWith cpos z.1 z.2 (backTo cpos (starEach (e :: es) X.env)) (backToKw cpos (keywordEach [] X.env))) (EP X pins σ Q) X.xe s2) X.xe s1
  have main : RunE X o σ H K1 := h.seqD I R P fun y env1 v G1 H1 A1 s1 I1 i1 R1 P1 => by
    intro u sh J1 ru
    by_cases hz : instOk C m y = true
    · rw [if_pos hz] at P1
      obtain ⟨a, dx, fs, rfl, ha1, hl⟩ := instOk_is i1 hz
      cases ru
      refine getmeth_ok J1 (R1.gh _ _ ha1) D'.cl D'.mt hl ?_
      refine PySem.W.callWith_K (first := [.ref a]) (h₀ := X.base) J1.ok.mod.kin D'.mt.kp (thn ((ha.seq (K1 := fun vs H2 => RunCs X (.ref (He.ma X.K (He.ga X.K C) m)) (.ref a :: vs) σ H2 Q) I1 R1 P1 ?_).r cpos pins sh J1) fun us s2 ⟨vs, H2, J2, r, q⟩ => ⟨J2.kIn, q pins s2 (.ref a :: us) J2 (.cons rfl r)⟩) he hpl
      intro xs env2 vs G2 H2 A2 s2 I2 i2 R2 P2
      exact run_cs D'.c hr hgd tk (sp_pure I2 R2 (.cons (i1.up s2) i2) (callP_imp I2 R2 (s1.trans s2) P2))
    · rw [if_neg hz] at P1; exact P1.elim
  exact PySem.W.methodCall_KW (pl := pl) (thn (main.r pins s J) fun u s1 ⟨v, H1, J1, r, q⟩ => q u s1 J1 r) ht
end
end Dn

namespace Dn
open PySem PySem.Spec PyProof.Rows L2
/-! ### calls that are given own variables -/
/-- an argument: data, or the own variable at a slot -/
abbrev RA := D ⊕ Nat
def IsR (K : PySem.W.Frag) (G : Hp) (σ : L2.St) (v : V) : RA → Prop
  | .inl d => Is K G v d
  | .inr i => σ[i]? = some (some v)
def IsRs (K : PySem.W.Frag) (G : Hp) (σ : L2.St) : List V → List RA → Prop
  | [], [] => True
  | v :: vs, a :: as => IsR K G σ v a ∧ IsRs K G σ vs as
  | _, _ => False
def fetch (env : Ev) : List RA → Option (List T)
  | [] => some []
  | .inl d :: as => (fetch env as).map (.d d :: ·)
  | .inr i :: as => (treeS (getS env i)).bind fun t => (fetch env as).map (t :: ·)
def owns : List RA → List Nat
  | [] => []
  | .inl _ :: as => owns as
  | .inr i :: as => i :: owns as
def maskR : List RA → List Bool
  | [] => []
  | .inl _ :: as => false :: maskR as
  | .inr _ :: as => true :: maskR as
def putB (env : Ev) : List RA → List T → Ev
  | .inl _ :: as, bs => putB env as bs
  | .inr i :: as, b :: bs => setS (putB env as bs) i (reS (getS (putB env as bs) i) b)
  | _, _ => env
theorem getS_setS_ne : ∀ {env : Ev} {i j : Nat} {s : Slot}, i ≠ j → getS (setS env i s) j = getS env j
  | [], _, _, _, _ => rfl
  | _ :: _, 0, 0, _, h => absurd rfl h
  | _ :: _, 0, _ + 1, _, _ => rfl
  | _ :: _, _ + 1, 0, _, _ => rfl
  | _ :: r, i + 1, j + 1, s, h => getS_setS_ne (env := r) fun e => h (congrArg (· + 1) e)
theorem setS_comm : ∀ {env : Ev} {i j : Nat} {s u : Slot}, i ≠ j → setS (setS env i s) j u = setS (setS env j u) i s
  | [], _, _, _, _, _ => rfl
  | _ :: _, 0, 0, _, _, h => absurd rfl h
  | _ :: _, 0, _ + 1, _, _, _ => rfl
  | _ :: _, _ + 1, 0, _, _, _ => rfl
  | x :: r, i + 1, j + 1, s, u, h => congrArg (x :: ·) (setS_comm (env := r) fun e => h (congrArg (· + 1) e))
theorem setS_setS : ∀ {env : Ev} {i : Nat} {s u : Slot}, setS (setS env i s) i u = setS env i u
  | [], _, _, _ => rfl
  | _ :: _, 0, _, _ => rfl
  | x :: r, i + 1, s, u => congrArg (x :: ·) (setS_setS (env := r))
theorem getS_setS : ∀ {env : Ev} {i : Nat} {s t : Slot}, getS env i = t → t ≠ .none → getS (setS env i s) i = s
  | [], _, _, _, h, k => absurd h.symm k
  | _ :: _, 0, _, _, _, _ => rfl
  | _ :: r, i + 1, s, t, h, k => getS_setS (env := r) h k
theorem fetch_set {env : Ev} {i : Nat} {s : Slot} : ∀ {as : List RA}, i ∉ owns as → fetch (setS env i s) as = fetch env as
  | [], _ => rfl
  | .inl d :: as, h => by unfold fetch; rw [fetch_set (as := as) h]
  | .inr j :: as, h => by
    have h1 : i ≠ j := fun e => h (e ▸ List.mem_cons_self)
    unfold fetch
    rw [fetch_set (as := as) (fun z => h (List.mem_cons_of_mem _ z)), getS_setS_ne h1]
theorem getS_putB {env : Ev} {i : Nat} : ∀ {as : List RA} {bs : List T}, i ∉ owns as → getS (putB env as bs) i = getS env i
  | [], _, _ => rfl
  | .inl d :: as, bs, h => getS_putB (as := as) (bs := bs) h
  | .inr j :: as, [], h => rfl
  | .inr j :: as, b :: bs, h => by
    have h1 : j ≠ i := fun e => h (e ▸ List.mem_cons_self)
    unfold putB
    rw [getS_setS_ne h1]
    exact getS_putB (as := as) fun z => h (List.mem_cons_of_mem _ z)
theorem putB_set {env : Ev} {i : Nat} {s u : Slot} : ∀ {as : List RA} {bs : List T}, i ∉ owns as → setS (putB (setS env i s) as bs) i u = setS (putB env as bs) i u
  | [], _, _ => setS_setS
  | .inl d :: as, bs, h => putB_set (as := as) (bs := bs) h
  | .inr j :: as, [], h => setS_setS
  | .inr j :: as, b :: bs, h => by
    have h1 : j ≠ i := fun e => h (e ▸ List.mem_cons_self)
    have h2 : i ∉ owns as := fun z => h (List.mem_cons_of_mem _ z)
    unfold putB
    rw [setS_comm h1, setS_comm (env := putB env as bs) h1, putB_set (as := as) h2]
    congr 1
    congr 1
    have e1 := getS_setS_ne (env := putB (setS env i s) as bs) (s := u) (Ne.symm h1)
    have e2 := getS_setS_ne (env := putB env as bs) (s := u) (Ne.symm h1)
    rw [← e1, putB_set (as := as) h2, e2]
theorem reS_re {s : Slot} {t u : T} : reS (reS s t) u = reS s u := by cases s <;> rfl
theorem treeS_re {s : Slot} {t u : T} (h : treeS s = some t) : treeS (reS s u) = some u := by
  cases s with
  | none => cases h
  | loc x => rfl
  | par x => rfl
section
variable {K : PySem.W.Frag} {G H : Hp} {ps : List V} {σ : L2.St}
theorem fetch_run : ∀ {as : List RA} {vs : List V} {ts : List T} {env : Ev} {A : List Addr}, EvIs K G H ps σ env A → IsRs K G σ vs as → fetch env as = some ts → (owns as).Nodup → ∃ B C, TIsL K G H vs ts B ∧ A.Perm (B ++ C) ∧
    ∀ G' H' bs B', Same G G' → (∀ a ∈ C, H' a = H a) → TIsL K G' H' (maskd (maskR as) vs) bs B' → ∃ A', EvIs K G' H' ps σ (putB env as bs) A' ∧ A'.Perm (B' ++ C)
  | [], [], ts, env, A, I, _, e, _ => by
    cases e
    refine ⟨[], A, .nil, List.Perm.refl _, fun G' H' bs B' s k t => ?_⟩
    cases t
    exact ⟨A, I.up s k, List.Perm.refl _⟩
  | [], _ :: _, _, _, _, _, h, _, _ => h.elim
  | _ :: _, [], _, _, _, _, h, _, _ => h.elim
  | .inl d :: as, v :: vs, ts, env, A, I, h, e, nd => by
    obtain ⟨ts', e1, rfl⟩ := Option.map_eq_some_iff.mp (show (fetch env as).map (.d d :: ·) = some ts from e)
    obtain ⟨B, C, h1, h2, h3⟩ := fetch_run I h.2 e1 nd
    exact ⟨B, C, TIsL.cons (A := []) (.d h.1) h1, h2, h3⟩
  | .inr i :: as, v :: vs, ts, env, A, I, h, e, nd => by
    obtain ⟨t, e0, e1⟩ := Option.bind_eq_some_iff.mp (show (treeS (getS env i)).bind (fun t => (fetch env as).map (t :: ·)) = some ts from e)
    obtain ⟨ts', e2, rfl⟩ := Option.map_eq_some_iff.mp e1
    obtain ⟨hni, nd2⟩ := List.nodup_cons.mp nd
    obtain ⟨w, B1, C1, h1, h2, h3, h4⟩ := I.tree e0
    have hw : w = v := by
      have := h1.symm.trans h.1
      cases this; rfl
    subst hw
    obtain ⟨A1, I1, p1⟩ := h4 G H (.d (.val w)) [] (Same.refl G) (fun _ _ => rfl) (.d (.val w))
    obtain ⟨B2, C2, g1, g2, g3⟩ := fetch_run I1 h.2 ((fetch_set hni).trans e2) nd2
    refine ⟨B1 ++ B2, C2, .cons h2 g1, ?_, fun G' H' bs B' s k t => ?_⟩
    · rw [List.append_assoc]
      exact h3.trans (List.Perm.append_left B1 (p1.symm.trans g2))
    · cases t with
      | @cons _ _ b bs Bb Bs tb ts =>
        obtain ⟨A2, I2, p2⟩ := g3 G' H' bs Bs s k ts
        have e5 : getS (putB (setS env i (reS (getS env i) (.d (.val w)))) as bs) i = reS (getS env i) (.d (.val w)) := by
          rw [getS_putB hni]
          refine getS_setS rfl fun z => ?_
          rw [z] at e0; cases e0
        have e6 : treeS (getS (putB (setS env i (reS (getS env i) (.d (.val w)))) as bs) i) = some (.d (.val w)) := by
          rw [e5]; exact treeS_re e0
        obtain ⟨w', B3, C3, k1, k2, k3, k4⟩ := I2.tree e6
        have hw : w' = w := by
          have := k1.symm.trans h1
          cases this; rfl
        subst hw
        cases k2 with
        | d k2 =>
          obtain ⟨A4, I4, p4⟩ := k4 G' H' b Bb (Same.refl G') (fun _ _ => rfl) tb
          refine ⟨A4, ?_, ?_⟩
          · rw [e5, reS_re, putB_set hni] at I4
            unfold putB
            rw [getS_putB hni]
            exact I4
          · rw [List.append_assoc]
            exact p4.trans (List.Perm.append_left Bb (k3.symm.trans p2))
theorem isRs_len {as : List RA} : ∀ {vs : List V}, IsRs K G σ vs as → vs.length = as.length := by
  induction as with
  | nil => intro vs h; cases vs with
    | nil => rfl
    | cons _ _ => exact h.elim
  | cons a as ih => intro vs h; cases vs with
    | nil => exact h.elim
    | cons _ _ => exact congrArg (· + 1) (ih h.2)
theorem isRs_up {G' : Hp} (s : Same G G') : ∀ {as : List RA} {vs : List V}, IsRs K G σ vs as → IsRs K G' σ vs as
  | [], [], _ => trivial
  | [], _ :: _, h => h.elim
  | _ :: _, [], h => h.elim
  | .inl d :: as, v :: vs, h => ⟨Is.up s h.1, isRs_up s h.2⟩
  | .inr i :: as, v :: vs, h => ⟨h.1, isRs_up s h.2⟩
theorem maskR_len : ∀ {as : List RA}, (maskR as).length = as.length
  | [] => rfl
  | .inl _ :: as => congrArg (· + 1) (maskR_len (as := as))
  | .inr _ :: as => congrArg (· + 1) (maskR_len (as := as))
theorem fetch_ok : ∀ {as : List RA} {ts : List T} {env : Ev}, fetch env as = some ts → mOk (maskR as) ts
  | [], _, _, e => by cases e; trivial
  | .inl d :: as, ts, env, e => by
    obtain ⟨ts', e1, rfl⟩ := Option.map_eq_some_iff.mp (show (fetch env as).map (.d d :: ·) = some ts from e)
    exact ⟨.inr rfl, fetch_ok e1⟩
  | .inr i :: as, ts, env, e => by
    obtain ⟨t, e0, e1⟩ := Option.bind_eq_some_iff.mp (show (treeS (getS env i)).bind (fun t => (fetch env as).map (t :: ·)) = some ts from e)
    obtain ⟨ts', e2, rfl⟩ := Option.map_eq_some_iff.mp e1
    exact ⟨.inl rfl, fetch_ok e2⟩
theorem mOk_app : ∀ {ms ms' : List Bool} {ts ts' : List T}, mOk ms ts → mOk ms' ts' → mOk (ms ++ ms') (ts ++ ts')
  | [], _, [], _, _, h => h
  | [], _, _ :: _, _, h, _ => h.elim
  | _ :: _, _, [], _, h, _ => h.elim
  | _ :: _, _, _ :: _, _, h, k => ⟨h.1, mOk_app h.2 k⟩
theorem maskd_app {α : Type} : ∀ {ms ms' : List Bool} {vs us : List α}, ms.length = vs.length → maskd (ms ++ ms') (vs ++ us) = maskd ms vs ++ maskd ms' us
  | [], _, [], _, _ => rfl
  | [], _, _ :: _, _, h => by cases h
  | _ :: _, _, [], _, h => by cases h
  | true :: ms, ms', v :: vs, us, h => congrArg (v :: ·) (maskd_app (by simpa using h))
  | false :: ms, ms', v :: vs, us, h => maskd_app (ms := ms) (by simpa using h)
theorem TIsL.app {vs us : List V} {ts us' : List T} {A B : List Addr} (h : TIsL K G H vs ts A) (r : TIsL K G H us us' B) : TIsL K G H (vs ++ us) (ts ++ us') (A ++ B) := by
  induction vs generalizing ts A with
  | nil => cases h; exact r
  | cons v vs ih =>
    cases h with
    | cons h t => rw [List.append_assoc]; exact .cons h (ih t)
end
/-- a call with own variables -/
def callO (mask : List Bool) (Fn' : Fn) (dvs : List V) (as : List RA) (env : Ev) : Rs T := if maskR as ++ List.replicate dvs.length false = mask ∧ (owns as).Nodup then (match fetch env as with
  | some ts => (match Fn' (ts ++ (dvs.map vD).map .d) with
    | .ok t back => .ok t (putB env as back)
    | .exc c fs back => .exc c fs (putB env as back)
    | .stuck => .stuck)
  | none => .stuck) else .stuck
section
variable {X : Cx} {W : WX} {F : Fm} {ps : List V} {σ : L2.St} {G G0 H : Hp} {A : List Addr} {env : Ev} {k n i : Nat} {dvs : List V} {vs : List V} {as : List RA} {Q : VK} {Fn' : Fn} {mask : List Bool}
theorem sp_own (I : EvIs X.K G H ps σ env A) (R : Rel F G H A) (i : IsRs X.K G σ vs as) (P : (callO mask Fn' dvs as env).post (okE X F ps σ G Q) (exP X W F ps G)) : spF X.K mask Fn' (vs ++ dvs) H Q (fun cls dx H' => W cls dx σ H') := by
  unfold callO at P
  by_cases hl : maskR as ++ List.replicate dvs.length false = mask ∧ (owns as).Nodup
  · rw [if_pos hl] at P
    obtain ⟨hm, hn⟩ := hl
    cases q : fetch env as with
    | none => rw [q] at P; exact P.elim
    | some ts =>
      rw [q] at P
      obtain ⟨B, C, h1, h2, h3⟩ := fetch_run I i q hn
      have R2 := R.perm h2
      have hdv : TIsL X.K G H dvs ((dvs.map vD).map .d) [] := isL_d (isL_vD dvs)
      have hlen : (maskR as).length = vs.length := by rw [maskR_len, isRs_len i]
      have hmd : maskd mask (vs ++ dvs) = maskd (maskR as) vs := by
        rw [← hm, maskd_app hlen, maskd_d, List.append_nil]
      have hok : mOk (List.replicate dvs.length false) ((dvs.map vD).map T.d) := by
        have := mOk_d (dvs.map vD)
        rwa [List.length_map] at this
      refine ⟨ts ++ (dvs.map vD).map .d, B, G, by simpa using h1.app hdv, hm ▸ mOk_app (fetch_ok q) hok, R.gh, R2.left.nd, fun a ha => ⟨(R2.left.fp a ha).1, (R2.left.fp a ha).2.1⟩, ?_⟩
      rw [hmd]
      dsimp only at P
      cases q2 : Fn' (ts ++ (dvs.map vD).map .d) with
      | stuck => rw [q2] at P; exact P.elim
      | ok t back =>
        rw [q2] at P
        intro v G' H' A' B' r t' tb
        obtain ⟨r2, s2, k2⟩ := Rel.back (B := B) (A := C) R2 r
        obtain ⟨A2, I2, p2⟩ := h3 G' H' back A' s2 k2 tb
        refine P v G' H' A2 B' s2 I2 t' (r2.perm ?_)
        rw [List.append_assoc]
        exact List.Perm.append_left B' p2.symm
      | exc c fs back =>
        rw [q2] at P
        intro cls dx G' H' A' r tb x
        obtain ⟨r2, s2, k2⟩ := Rel.back (B := B) (A := C) R2 r
        obtain ⟨A2, I2, p2⟩ := h3 G' H' back A' s2 k2 tb
        exact P cls dx σ G' H' A2 s2 I2 (r2.perm p2.symm) x
  · rw [if_neg hl] at P; exact P.elim
end
def okR (X : Cx) (F : Fm) (ps : List V) (σ : L2.St) (G : Hp) (Q : List V → Hp → Prop) (as : List RA) (env' : Ev) : Prop :=
  ∀ vs G' H' A', Same G G' → EvIs X.K G' H' ps σ env' A' → IsRs X.K G' σ vs as → Rel F G' H' A' → Q vs H'
def SR (X : Cx) (W : WX) (es : List Expr) (d : Ev → Rs (List RA)) : Prop :=
  ∀ F ps σ G H A Q env, EvIs X.K G H ps σ env A → Rel F G H A → (d env).post (okR X F ps σ G Q) (exP X W F ps G) → RunA X es σ H Q
section
variable {X : Cx} {W : WX} {F : Fm} {ps : List V} {σ : L2.St} {G H : Hp} {A : List Addr} {env : Ev} {β : Type} {ok : β → Ev → Prop} {e : Expr} {es : List Expr} {d : DE} {ds : Ev → Rs (List RA)} {x m C : Str} {i k : Nat} {p pos apos cpos : Pos} {dvs : List V} {qs : List Str} {Fn' : Fn} {mask : List Bool} {pl : Sem Bool}
theorem okR.up {G1 : Hp} (s : Same G G1) {as : List RA} {Q : List V → Hp → Prop} (h : okR X F ps σ G Q as env) : okR X F ps σ G1 Q as env := fun v G' H' A' s' => h v G' H' A' (s.trans s')
theorem SR.seq {K1 : List V → Hp → Prop} (h : SR X W es ds) {f : List RA → Ev → Rs β} (I : EvIs X.K G H ps σ env A) (R : Rel F G H A) (P : ((ds env).bind f).post ok (exP X W F ps G))
    (k : ∀ as env' vs G' H' A', Same G G' → EvIs X.K G' H' ps σ env' A' → IsRs X.K G' σ vs as → Rel F G' H' A' → (f as env').post ok (exP X W F ps G') → K1 vs H') : RunA X es σ H K1 := by
  refine h F ps σ G H A K1 env I R ?_
  cases q : ds env with
  | ok t env' =>
    rw [q] at P
    exact fun vs G' H' A' s I' i R' => k t env' vs G' H' A' s I' i R' (post_up s P)
  | exc c fs env' => rw [q] at P; exact P
  | stuck => rw [q] at P; exact P
def rNil : Ev → Rs (List RA) := fun env => .ok [] env
def rD (d1 : DE) (ds : Ev → Rs (List RA)) : Ev → Rs (List RA) := fun env => (d1 env).bindD fun x env => (ds env).bind fun xs env => .ok (.inl x :: xs) env
def rO (i : Nat) (ds : Ev → Rs (List RA)) : Ev → Rs (List RA) := fun env => if (treeS (getS env i)).isSome = true then (ds env).bind fun xs env => .ok (.inr i :: xs) env else .stuck
theorem SR.nil : SR X W [] rNil := fun F ps σ G H A Q env I R P => PA.go pa_nil (P [] G H A (Same.refl G) I trivial R)
theorem SR.dd (hs : starEach (e :: es) X.env = (false, eval e X.env) :: starEach es X.env) (h : SE X W e d) (t : SR X W es ds) : SR X W (e :: es) (rD d ds) := fun F ps σ G H A Q env I R P =>
  PA.go (pa_cons pe_run pa_run hs) (h.seqD I R P fun x env1 v G1 H1 A1 s1 I1 i1 R1 P1 => t.seq I1 R1 P1 fun xs env2 vs G2 H2 A2 s2 I2 i2 R2 P2 => P2 (v :: vs) G2 H2 A2 (s1.trans s2) I2 ⟨i1.up s2, i2⟩ R2)
theorem SR.o (hs : starEach (.Name x p :: es) X.env = (false, eval (.Name x p) X.env) :: starEach es X.env) (hN : X.N[i]? = some x) (hv : visB X.env.scope x = true) (hd : (x == ("__debug__" : Str)) = false) (hcd : (x == ("__classdict__" : Str)) = false) (t : SR X W es ds) : SR X W (.Name x p :: es) (rO i ds) := fun F ps σ G H A Q env I R P => by
  refine PA.go (pa_cons pe_run pa_run hs) ?_
  unfold rO at P
  by_cases hz : (treeS (getS env i)).isSome = true
  · rw [if_pos hz] at P
    obtain ⟨t0, q0⟩ := Option.isSome_iff_exists.mp hz
    obtain ⟨v, B, C, hv1, _, _, _⟩ := I.tree q0
    refine PE.go (pe_var hN (vis_of hv) hd hcd) ⟨v, hv1, ?_⟩
    exact t.seq I R P fun xs env2 vs G2 H2 A2 s2 I2 i2 R2 P2 => P2 (v :: vs) G2 H2 A2 s2 I2 ⟨hv1, i2⟩ R2
  · rw [if_neg hz] at P; exact P.elim
def dCallO (mask : List Bool) (Fn' : Fn) (dvs : List V) (ds : Ev → Rs (List RA)) : DE := fun env => (ds env).bind fun as env => callO mask Fn' dvs as env
theorem SE.callO (tk : Takes X W) (hr : Room k X.A) (hgd : X.A.guards = some []) (D : Def1 X.prog X.w X.K X.mg X.base x k qs dvs (spF X.K mask Fn')) (hg : Gl X x) (hdb : (x == ("__debug__" : Str)) = false) (he : starEach (e :: es) X.env = (false, eval e X.env) :: starEach es X.env) (hpl : (backTo pos (starEach es X.env)).any (·.1) = false)
    (ha : SR X W (e :: es) ds) : SE X W (.Call (.Name x p) (e :: es) [] pos) (dCallO mask Fn' dvs ds) := fun F qs σ G H A Q env I R P => .of fun pins s J => by
  refine wpAny_Call_Name_kw (ld_glob J hg D.m (PySem.W.callWith_K (h₀ := X.base) J.ok.mod.kin D.kp (thn ((ha.seq (K1 := fun vs H1 => RunCs X (.ref (He.ga X.K x)) vs σ H1 Q) I R P ?_).r pos pins s J) fun us s1 ⟨vs, H1, I1, r, q⟩ => ⟨I1.kIn, q pins s1 us I1 r⟩) he hpl) hdb)
  intro as env1 vs G1 H1 A1 s1 I1 i1 R1 P1
  exact run_cs D.c hr hgd tk (sp_own I1 R1 i1 (P1.imp (fun _ _ _ h => h.up s1) fun _ _ _ _ h => h))
/-- name.m(..), the name our own instance -/
def instOkT (C m : Str) : T → Bool
  | .inst C' ns _ => decide (C' = C) && decide (m ∉ ns)
  | .d x => instOk C m x
  | _ => false
def dMethO (C m : Str) (mask : List Bool) (Fn' : Fn) (dvs : List V) (i : Nat) (ds : Ev → Rs (List RA)) : DE := fun env => if ((treeS (getS env i)).map (instOkT C m)) = some true then (ds env).bind fun as env => callO mask Fn' dvs (.inr i :: as) env else .stuck
theorem instOkT_is {K : PySem.W.Frag} {B : List Addr} {v : V} {y : T} (s : Same G H) (h : TIs K G H v y B) (e : instOkT C m y = true) : ∃ a dx fs, v = .ref a ∧ H a = some (.ins (He.ga K C) dx fs) ∧ fs.lookup m = none := by
  cases h with
  | d h =>
    obtain ⟨a, dx, fs, e1, e2, e3⟩ := instOk_is h e
    exact ⟨a, dx, fs, e1, s _ _ e2, e3⟩
  | @inst a dx C' fs ns ts A ha hn r =>
    obtain ⟨e1, e2⟩ := (Bool.and_eq_true _ _).mp e
    have e1 := of_decide_eq_true e1
    have e2 := of_decide_eq_true e2
    subst e1
    exact ⟨a, dx, fs, rfl, ha, not_lookup (hn ▸ e2)⟩
  | _ => cases e
theorem SE.methO (tk : Takes X W) (hr : Room k X.A) (hgd : X.A.guards = some []) (D' : DefM X.prog X.w X.K X.mg X.base C m k qs dvs (spF X.K mask Fn')) (he : starEach (e :: es) X.env = (false, eval e X.env) :: starEach es X.env) (hpl : (backTo cpos (starEach es X.env)).any (·.1) = false)
    (ht : MethEq X (.Name x p) m apos cpos (e :: es) pl) (hN : X.N[i]? = some x) (hv : visB X.env.scope x = true) (hd : (x == ("__debug__" : Str)) = false) (hcd : (x == ("__classdict__" : Str)) = false) (ha : SR X W (e :: es) ds) : SE X W (.Call (.Attribute (.Name x p) m apos) (e :: es) [] cpos) (dMethO C m mask Fn' dvs i ds) := fun F ps σ G H A Q env I R P => .of fun pins s J => by
  unfold dMethO at P
  by_cases hz : ((treeS (getS env i)).map (instOkT C m)) = some true
  · rw [if_pos hz] at P
    obtain ⟨t0, q0, q1⟩ := Option.map_eq_some_iff.mp hz
    obtain ⟨v, B, C0, hv1, ht1, _, _⟩ := I.tree q0
    obtain ⟨a, dx, fs, rfl, ha1, hl⟩ := instOkT_is R.gh ht1 q1
    let K1 : VK := fun v H1 => ∀ (u : Value) (s1 : Shared), Inv X pins σ H1 s1 → RelV v u → wpAny (model X.prog X.w) X.A (getMethod u m pl) (fun z s2 => wpAny (model X.prog X.w) X.A (callWith cpos z.1 z.2 (backTo cpos (starEach (e :: es) X.env)) (backToKw cpos (keywordEach [] X.env))) (EP X pins σ Q) X.xe s2) X.xe s1
    have main : RunE X (.Name x p) σ H K1 := PE.go (pe_var hN (vis_of hv) hd hcd) ⟨_, hv1, by
      intro u sh J1 ru
      cases ru
      refine getmeth_ok J1 ha1 D'.cl D'.mt hl ?_
      refine PySem.W.callWith_K (first := [.ref a]) (h₀ := X.base) J1.ok.mod.kin D'.mt.kp (thn ((ha.seq (K1 := fun vs H2 => RunCs X (.ref (He.ma X.K (He.ga X.K C) m)) (.ref a :: vs) σ H2 Q) I R P ?_).r cpos pins sh J1) fun us s2 ⟨vs, H2, J2, r, q⟩ => ⟨J2.kIn, q pins s2 (.ref a :: us) J2 (.cons rfl r)⟩) he hpl
      intro as env2 vs G2 H2 A2 s2 I2 i2 R2 P2
      exact run_cs D'.c hr hgd tk (sp_own (as := .inr i :: as) (vs := .ref a :: vs) I2 R2 ⟨hv1, i2⟩ (P2.imp (fun _ _ _ h => h.up s2) fun _ _ _ _ h => h))⟩
    exact PySem.W.methodCall_KW (pl := pl) (thn (main.r pins s J) fun u s1 ⟨v, H1, J1, r, q⟩ => q u s1 J1 r) ht
  · rw [if_neg hz] at P; exact P.elim
end
end Dn

namespace Dn
open PySem PySem.Spec PyProof.Rows L2
theorem takesF {X : Cx} : Takes X (fun _ _ _ _ => False) := fun u s' ⟨a, B, sI, pins, σ, H, cls, d, e, I, nb, up, sky, na, os, ag, w⟩ => w.elim
def instC (C : Str) : D → Bool
  | .inst C' _ _ => decide (C' = C)
  | _ => false
theorem instC_is {K : PySem.W.Frag} {G : Hp} {v : V} {y : D} {C : Str} (h : Is K G v y) (e : instC C y = true) : ∃ a dx fs, v = .ref a ∧ G a = some (.ins (He.ga K C) dx fs) := by
  cases y with
  | inst C' ns ds =>
    have e1 := of_decide_eq_true e
    subst e1
    obtain ⟨a, dx, fs, rfl, ha, hn, r⟩ := h.instE
    exact ⟨a, dx, fs, rfl, ha⟩
  | _ => cases e
/-- .. where no exception may leave -/
def callQ (Fn' : Fn) (n : Nat) (dvs : List V) (xs : List D) (env : Ev) : Rs T := match callP Fn' n dvs xs env with
  | .ok t e => .ok t e
  | _ => .stuck
theorem callQ_P {Fn' : Fn} {n : Nat} {dvs : List V} {xs : List D} {env : Ev} {ok : T → Ev → Prop} {ex ex' : XC → Fds → Ev → Prop} (P : (callQ Fn' n dvs xs env).post ok ex) : (callP Fn' n dvs xs env).post ok ex' := by
  unfold callQ at P
  cases q : callP Fn' n dvs xs env with
  | ok t e => rw [q] at P; exact P
  | exc c fs e => rw [q] at P; exact P.elim
  | stuck => rw [q] at P; exact P
section
variable {X : Cx} {W : WX} {F : Fm} {ps : List V} {σ : L2.St} {G H : Hp} {A : List Addr} {env : Ev} {e e2 o : Expr} {es : List Expr} {ds : Ev → Rs (List D)} {dr : Ev → Rs (List RA)} {d d2 : DE} {x m C : Str} {i k n : Nat} {p pos apos cpos : Pos} {dvs : List V} {qs : List Str} {Fn' : Fn} {mask : List Bool} {pl : Sem Bool}
/-! ### methods without arguments -/
theorem SE.methP0 (tk : Takes X W) (hr : Room k X.A) (hgd : X.A.guards = some []) (D' : DefM X.prog X.w X.K X.mg X.base C m k qs dvs (spF X.K (List.replicate n false) Fn')) (ht : MethEq X o m apos cpos [] pl) (h : SE X W o d) : SE X W (.Call (.Attribute o m apos) [] [] cpos) (dMethP C m Fn' n dvs d dNil) := fun F ps σ G H A Q env I R P => .of fun pins s J => by
  let K1 : VK := fun v H1 => ∀ (u : Value) (s1 : Shared), Inv X pins σ H1 s1 → RelV v u → wpAny (model X.prog X.w) X.A (getMethod u m pl) (fun z s2 => wpAny (model X.prog X.w) X.A (callWith cpos z.1 z.2 (backTo cpos (starEach [] X.env)) (backToKw cpos (keywordEach [] X.env))) (EP X pins σ Q) X.xe s2) X.xe s1
  have main : RunE X o σ H K1 := h.seqD I R P fun y env1 v G1 H1 A1 s1 I1 i1 R1 P1 => by
    intro u sh J1 ru
    by_cases hz : instOk C m y = true
    · rw [if_pos hz] at P1
      obtain ⟨a, dx, fs, rfl, ha1, hl⟩ := instOk_is i1 hz
      cases ru
      refine getmeth_ok J1 (R1.gh _ _ ha1) D'.cl D'.mt hl ?_
      refine PySem.W.callWith_K0 (first := [.ref a]) J1.kIn D'.mt.kp ?_
      have P1 : (Dn.callP Fn' n dvs [y] env1).post (okE X F ps σ G Q) (exP X W F ps G1) := P1
      exact run_cs D'.c hr hgd tk (sp_pure (vs := [.ref a]) I1 R1 (.cons i1 .nil) (callP_imp I1 R1 s1 P1)) pins sh [.ref a] J1 (.cons rfl .nil)
    · rw [if_neg hz] at P1; exact P1.elim
  exact PySem.W.methodCall_KW (pl := pl) (thn (main.r pins s J) fun u s1 ⟨v, H1, J1, r, q⟩ => q u s1 J1 r) ht
theorem SE.methO0 (tk : Takes X W) (hr : Room k X.A) (hgd : X.A.guards = some []) (D' : DefM X.prog X.w X.K X.mg X.base C m k qs dvs (spF X.K mask Fn'))
    (ht : MethEq X (.Name x p) m apos cpos [] pl) (hN : X.N[i]? = some x) (hv : visB X.env.scope x = true) (hd : (x == ("__debug__" : Str)) = false) (hcd : (x == ("__classdict__" : Str)) = false) : SE X W (.Call (.Attribute (.Name x p) m apos) [] [] cpos) (dMethO C m mask Fn' dvs i rNil) := fun F ps σ G H A Q env I R P => .of fun pins s J => by
  unfold dMethO at P
  by_cases hz : ((treeS (getS env i)).map (instOkT C m)) = some true
  · rw [if_pos hz] at P
    obtain ⟨t0, q0, q1⟩ := Option.map_eq_some_iff.mp hz
    obtain ⟨v, B, C0, hv1, ht1, _, _⟩ := I.tree q0
    obtain ⟨a, dx, fs, rfl, ha1, hl⟩ := instOkT_is R.gh ht1 q1
    let K1 : VK := fun v H1 => ∀ (u : Value) (s1 : Shared), Inv X pins σ H1 s1 → RelV v u → wpAny (model X.prog X.w) X.A (getMethod u m pl) (fun z s2 => wpAny (model X.prog X.w) X.A (callWith cpos z.1 z.2 (backTo cpos (starEach [] X.env)) (backToKw cpos (keywordEach [] X.env))) (EP X pins σ Q) X.xe s2) X.xe s1
    have main : RunE X (.Name x p) σ H K1 := PE.go (pe_var hN (vis_of hv) hd hcd) ⟨_, hv1, by
      intro u sh J1 ru
      cases ru
      refine getmeth_ok J1 ha1 D'.cl D'.mt hl ?_
      refine PySem.W.callWith_K0 (first := [.ref a]) J1.kIn D'.mt.kp ?_
      exact run_cs D'.c hr hgd tk (sp_own (as := [.inr i]) (vs := [.ref a]) I R ⟨hv1, trivial⟩ P) pins sh [.ref a] J1 (.cons rfl .nil)⟩
    exact PySem.W.methodCall_KW (pl := pl) (thn (main.r pins s J) fun u s1 ⟨v, H1, J1, r, q⟩ => q u s1 J1 r) ht
  · rw [if_neg hz] at P; exact P.elim
/-! ### properties -/
structure DefP (P : Program) (w : World) (K : PySem.W.Frag) (mg : Str → Option Value) (base : Heap) (C f : Str) (k : Nat) (ps : List Str) (sp : Sp) : Prop where
  cl : Cls K (He.ga K C)
  ex : ∃ pa g, PropOf K (He.ga K C) f pa g ∧ Callee P w K mg base g k ps [] sp
def dProp (C : Str) (Fn' : Fn) (d : DE) : DE := fun env => (d env).bindD fun y env => if instC C y = true then callQ Fn' 1 [] [y] env else .stuck
theorem run_prop {pins : List (Addr × Obj)} {s : Shared} {a dx : Addr} {fs : List (Str × V)} {sp : Sp} {Q : VK} {b : Bool} {E' : Value → Shared → Prop} (I : Inv X pins σ H s) (ea : H a = some (.ins (He.ga X.K C) dx fs)) (D' : DefP X.prog X.w X.K X.mg X.base C m k qs sp)
    (hr : Room (k + 1) X.A) (hgd : X.A.guards = some []) (h : sp [.ref a] H Q (fun _ _ _ => False)) : wpAny (model X.prog X.w) X.A (getAttr (.ref a) m b) (EP X pins σ Q) E' s := by
  obtain ⟨p, g, hp, D⟩ := D'.ex
  obtain ⟨fd, ds, F, hb, hd, _⟩ := D.ex
  cases hd
  obtain ⟨mA, O, _, _, _, _⟩ := ins_get I.hok ea
  obtain ⟨od, J, _⟩ := O.look
  obtain ⟨rest, hrec⟩ := hp.rec_
  have I1 := I.tok (s.toks + 1)
  have hl : [Value.ref a].length = qs.length := by rw [← F.len _ _ _ _ h]; rfl
  have hc : (PySem.W.clsIn X.K (He.ga X.K C)).isSome = true := by
    obtain ⟨cd, hc, _⟩ := PySem.W.any_some D'.cl.hd
    rw [hc]
    rfl
  refine PySem.W.get_bind I.kIn J (PySem.W.plainGet_of (D'.cl.get m)).1 (PySem.W.findObj_data hc hp.at_ hp.get hp.tak) (PySem.W.plainGet_of (D'.cl.get m)).2 (wpAny_call (PySem.W.prop_get (s := { s with toks := s.toks + 1 }) I.kIn hrec ?_))
  refine codeAny_mono (F.run X.A.in1 X.stack { s with toks := s.toks + 1 } H ⟨[.ref a], []⟩ [.ref a] [.ref a] Q _ hr.in1 hgd I1.env0.in1 (by simpa using hb _ [.ref a] I1.kIn hl) (.cons rfl .nil) h) fun r s' hq => ?_
  cases r with
  | error er => obtain ⟨_, _, _, _, _, _, _, _, _, _, _, _, hE⟩ := hq; exact hE.elim
  | ok fl =>
    cases fl with
    | ret u =>
      obtain ⟨v, H', I3, rv, q3⟩ := I1.after hq
      show wpAny _ _ (handedOut u) _ _ _
      rw [PySem.W.handedOut_of (handed_of rv)]
      exact wpAny_pure ⟨v, H', I3, rv, q3⟩
    | next => exact False.elim hq
    | brk => exact False.elim hq
    | cont => exact False.elim hq
theorem SE.prop (hr : Room (k + 1) X.A) (hgd : X.A.guards = some []) (D' : DefP X.prog X.w X.K X.mg X.base C m k qs (spF X.K [false] Fn')) (hab : attributeBase o m X.env (eval o X.env) = eval o X.env) (h : SE X W o d) : SE X W (.Attribute o m pos) (dProp C Fn' d) := fun F ps σ G H A Q env I R P => .of fun pins s J => by
  let K1 : VK := fun v H1 => ∀ (u : Value) (s1 : Shared), Inv X pins σ H1 s1 → RelV v u → wpAny (model X.prog X.w) X.A (getAttr u m true) (EP X pins σ Q) X.xe s1
  have main : RunE X o σ H K1 := h.seqD I R P fun y env1 v G1 H1 A1 s1 I1 i1 R1 P1 => by
    intro u sh J1 ru
    by_cases hz : instC C y = true
    · rw [if_pos hz] at P1
      obtain ⟨a, dx, fs, rfl, ha1⟩ := instC_is i1 hz
      cases ru
      exact run_prop J1 (R1.gh _ _ ha1) D' hr hgd (sp_pure (W := fun _ _ _ _ => False) (n := 1) (vs := [.ref a]) I1 R1 (.cons i1 .nil) (callP_imp I1 R1 s1 (callQ_P P1)))
    · rw [if_neg hz] at P1; exact P1.elim
  exact attr_of hab (thn (main.r pins s J) fun u s1 ⟨v, H1, J1, r, q⟩ => q u s1 J1 r)
/-! ### x in o, o of an own class -/
def tB' (neg : Bool) : T → Ev → Rs T := fun t env => match t with
  | .d (.bool b) => .ok (.d (.bool (xor neg b))) env
  | _ => .stuck
def dInO (C : Str) (Fn' : Fn) (neg : Bool) (d1 d2 : DE) : DE := fun env => (d1 env).bindD fun x env => (d2 env).bindD fun y env => if instC C y = true then (callQ Fn' 2 [] [y, x] env).bind (tB' neg) else .stuck
theorem contains_own {pins : List (Addr × Obj)} {s : Shared} {a B dx f : Addr} {fs : List (Str × V)} {E : Value → Shared → Prop} {v : Value} {Q : Bool → Shared → Prop} (I : Inv X pins σ H s) (ea : H a = some (.ins B dx fs)) (hm : Meth X.K B "__contains__" f)
    (h : wpAny (model X.prog X.w) X.A (call (.ref f) [.ref a, v]) (fun r s' => wpAny (model X.prog X.w) X.A (truthy r) Q E s') E s) : wpAny (model X.prog X.w) X.A (contains (.ref a) v) Q E s := by
  obtain ⟨mA, O, _, _, _, _⟩ := ins_get I.hok ea
  obtain ⟨od, J, _⟩ := O.look
  unfold contains
  refine wpAny_holding (wpAny_bind (wpAny_bind (J.type.here ((PySem.W.looks_findIn I.kIn hm.at_).here ?_))))
  rw [if_neg (by simp)]
  exact wpAny_bind (PySem.W.unlessNone_K I.kIn J hm.at_ hm.fn h)
/-- a call's answer read on -/
theorem callQ_bind {β : Type} {Fn' : Fn} {xs : List D} {f : T → Ev → Rs β} {ok : β → Ev → Prop} {ex : XC → Fds → Ev → Prop} (P : ((callQ Fn' n dvs xs env).bind f).post ok ex) : ∃ t, callP Fn' n dvs xs env = .ok t env ∧ (f t env).post ok ex := by
  unfold callQ at P
  cases q : callP Fn' n dvs xs env with
  | ok t e =>
    rw [q] at P
    have : e = env := by
      unfold callP at q
      by_cases hl : xs.length + dvs.length = n
      · rw [if_pos hl] at q
        cases q2 : Fn' ((xs ++ dvs.map vD).map .d) with
        | ok t b => rw [q2] at q; cases q; rfl
        | _ => rw [q2] at q; cases q
      · rw [if_neg hl] at q; cases q
    subst this
    exact ⟨t, rfl, P⟩
  | exc c fs e => rw [q] at P; exact P.elim
  | stuck => rw [q] at P; exact P.elim
theorem sp_ok {vs : List V} {xs : List D} {t : T} {Q : VK} (I : EvIs X.K G H ps σ env A) (R : Rel F G H A) (i : IsL X.K G vs xs) (e : callP Fn' n dvs xs env = .ok t env) (k : OkO X F G H A Q t) : spF X.K (List.replicate n false) Fn' (vs ++ dvs) H Q (fun cls dx H' => False) :=
  sp_pure (W := fun _ _ _ _ => False) I R i (by rw [e]; exact ⟨k, rfl⟩)
theorem op_own {neg : Bool} {xv : V} {a : Addr} {y z : D} {Q : VK} (hr : Room k X.A) (hgd : X.A.guards = some []) (D' : DefM X.prog X.w X.K X.mg X.base C "__contains__" k qs [] (spF X.K [false, false] Fn')) (hz : instC C y = true)
    (I : EvIs X.K G H ps σ env A) (R : Rel F G H A) (i1 : Is X.K G xv z) (i2 : Is X.K G (.ref a) y) {b : Bool} (e : callP Fn' 2 [] [y, z] env = .ok (.d (.bool b)) env) (kk : OkO X F G H A Q (.d (.bool (xor neg b)))) : RunO X (compareOp (if neg = true then .NotIn else .In)) xv (.ref a) H Q := by
  intro pins s τ v u J rx ry
  cases ry
  obtain ⟨a', dx, fs, ea, ha⟩ := instC_is i2 hz
  cases ea
  have main : wpAny (model X.prog X.w) X.A (contains (.ref a) v) (fun c s' => ∃ H', Inv X pins τ H' s' ∧ Q (.bl (xor neg c)) H') X.xe s := by
    refine contains_own J (R.gh _ _ ha) D'.mt (thn (run_cs (W := fun _ _ _ _ => False) (Q := fun v H' => ∃ c, v = .bl c ∧ Q (.bl (xor neg c)) H') (vs := [.ref a, xv]) (σ := τ) D'.c hr hgd takesF ?_ pins s [.ref a, v] J (.cons rfl (.cons rx .nil))) fun r s' hq => ?_)
    · refine sp_ok (n := 2) (vs := [.ref a, xv]) I R (.cons i2 (.cons i1 .nil)) e fun v' G' H' B s2 k2 t' r2 => ?_
      cases t' with
      | d t' =>
        cases t'
        exact ⟨b, rfl, kk _ G' H' [] s2 k2 (.d (.bl _)) r2⟩
    · obtain ⟨v', H', I2, rv, c, rfl, q2⟩ := hq
      cases (show r = Value.bool c from rv)
      exact wpAny_truthy_bool ⟨H', I2, q2⟩
  cases neg with
  | false =>
    refine wpAny_bind (thn main fun c s' ⟨H', J', q⟩ => wpAny_pure ⟨.bl c, H', J', rfl, ?_⟩)
    rw [Bool.false_xor] at q; exact q
  | true =>
    refine wpAny_bind (thn main fun c s' ⟨H', J', q⟩ => wpAny_pure ⟨.bl (!c), H', J', rfl, ?_⟩)
    rw [Bool.true_xor] at q; exact q
theorem in_own {neg : Bool} {op : CmpOp} (hop : op = if neg = true then .NotIn else .In) (hr : Room k X.A) (hgd : X.A.guards = some []) (D' : DefM X.prog X.w X.K X.mg X.base C "__contains__" k qs [] (spF X.K [false, false] Fn')) (hm : behindInMarks op e2 = false)
    (h1 : SE X W e d) (h2 : SE X W e2 d2) : SE X W (.Compare e [op] [e2] pos) (dInO C Fn' neg d d2) := fun F ps σ G H A Q env I R P =>
  PE.go (pe_cmpR opr_run pe_run pe_run hm) (h1.seqD I R P fun x env1 v G1 H1 A1 s1 I1 i1 R1 P1 => h2.seqD I1 R1 P1 fun y env2 u G2 H2 A2 s2 I2 i2 R2 P2 => by
    by_cases hz : instC C y = true
    · rw [if_pos hz] at P2
      obtain ⟨t, et, P3⟩ := callQ_bind P2
      cases t with
      | d z =>
        cases z with
        | bool b =>
          obtain ⟨a, dx, fs, rfl, ha⟩ := instC_is i2 hz
          rw [hop]
          exact op_own hr hgd D' hz I2 R2 (i1.up s2) i2 et (okO_of I2 R2 (s1.trans s2) P3)
        | _ => exact P3.elim
      | _ => exact P3.elim
    · rw [if_neg hz] at P2; exact P2.elim)
theorem SE.inO (hr : Room k X.A) (hgd : X.A.guards = some []) (D' : DefM X.prog X.w X.K X.mg X.base C "__contains__" k qs [] (spF X.K [false, false] Fn')) (hm : behindInMarks .In e2 = false)
    (h1 : SE X W e d) (h2 : SE X W e2 d2) : SE X W (.Compare e [.In] [e2] pos) (dInO C Fn' false d d2) := in_own (neg := false) rfl hr hgd D' hm h1 h2
theorem SE.notInO (hr : Room k X.A) (hgd : X.A.guards = some []) (D' : DefM X.prog X.w X.K X.mg X.base C "__contains__" k qs [] (spF X.K [false, false] Fn')) (hm : behindInMarks .NotIn e2 = false)
    (h1 : SE X W e d) (h2 : SE X W e2 d2) : SE X W (.Compare e [.NotIn] [e2] pos) (dInO C Fn' true d d2) := in_own (neg := true) rfl hr hgd D' hm h1 h2
/-! ### a class called -/
structure DefI (P : Program) (w : World) (K : PySem.W.Frag) (mg : Str → Option Value) (base : Heap) (C : Str) (k : Nat) (ps : List Str) (dvs : List V) (sp : Sp) : Prop where
  m : mg C = some (.ref (He.ga K C))
  mkr : Mk K (He.ga K C) (He.ma K (He.ga K C) "__init__")
  c : Callee P w K mg base (He.ma K (He.ga K C) "__init__") k ps dvs sp
theorem run_mk {B f : Addr} {sp : Sp} {vs : List V} {Q : VK} (M : Mk X.K B f) (D : Callee X.prog X.w X.K X.mg X.base f k qs dvs sp) (hr : Room (k + 1) X.A) (hgd : X.A.guards = some []) (tk : Takes X W)
    (h : ∀ x dx, H x = none → H dx = none → dx ≠ x → sp (.ref x :: (vs ++ dvs)) (upd (upd H dx (.own x)) x (.ins B dx [])) (fun v H2 => v = .non ∧ Q (.ref x) H2) (fun cls d H' => W cls d σ H')) : RunCs X (.ref B) vs σ H Q := fun pins s us I r => by
  obtain ⟨fd, dw, F, hb, hd, _⟩ := D.ex
  have hq := h (s.heap.objs.size + 1) s.heap.objs.size (I.hok.fresh (Nat.le_succ _)) (I.hok.fresh (Nat.le_refl _)) (Nat.ne_of_lt (Nat.lt_succ_self _))
  have I2 := Inv.made (C := B) I
  have r2 : Vals (V.ref (s.heap.objs.size + 1) :: (vs ++ dvs)) (Value.ref (s.heap.objs.size + 1) :: (us ++ dw)) := .cons rfl (r.append hd)
  have hl : (Value.ref (s.heap.objs.size + 1) :: us ++ dw).length = qs.length := by
    have e := r2.length
    rw [F.len _ _ _ _ hq] at e
    exact e.symm
  refine wpAny_call (make_map (f := f) I.kIn M.makes M.init (beq_iff_eq.mp M.fn) (codeAny_mono (F.run _ X.stack _ _ ⟨Value.ref (s.heap.objs.size + 1) :: us, []⟩ (Value.ref (s.heap.objs.size + 1) :: (us ++ dw)) _ _ _ (hr.make B us []) hgd
    (I2.env0.make B us []) (hb _ (Value.ref (s.heap.objs.size + 1) :: us) I2.kIn hl) r2 hq) fun r' s' hq' => ?_))
  cases r' with
  | error e => exact passAt tk σ pins _ _ e s' I2 hq'
  | ok fl =>
    cases fl with
    | ret u =>
      obtain ⟨v, H', I3, rv, ev, q3⟩ := I2.after hq'
      subst ev
      exact ⟨rv, ⟨V.ref (s.heap.objs.size + 1), H', I3, rfl, q3⟩⟩
    | next => exact False.elim hq'
    | brk => exact False.elim hq'
    | cont => exact False.elim hq'
def callM (C : Str) (Fn' : Fn) (n : Nat) (dvs : List V) (xs : List D) (env : Ev) : Rs T := if xs.length + dvs.length = n then (match Fn' (.inst C [] [] :: (xs ++ dvs.map vD).map .d) with
  | .ok (.d .none) [t] => .ok t env
  | .exc c fs _ => .exc c fs env
  | _ => .stuck) else .stuck
theorem sp_mk {a dx : Addr} {vs : List V} {xs : List D} {Q : VK} (ha : H a = none) (hd : H dx = none) (hne : dx ≠ a) (I : EvIs X.K G H ps σ env A) (R : Rel F G H A) (i : IsL X.K G vs xs) (P : (callM C Fn' n dvs xs env).post (okE X F ps σ G Q) (exP X W F ps G)) :
    spF X.K (true :: List.replicate n false) Fn' (.ref a :: (vs ++ dvs)) (upd (upd H dx (.own a)) a (.ins (He.ga X.K C) dx [])) (fun v H2 => v = .non ∧ Q (.ref a) H2) (fun cls d H' => W cls d σ H') := by
  unfold callM at P
  by_cases hl : xs.length + dvs.length = n
  · rw [if_pos hl] at P
    have i2 := i.app (isL_vD (K := X.K) (G := G) dvs)
    have hn : (xs ++ dvs.map vD).length = n := by rw [List.length_append, List.length_map]; exact hl
    have R1 : Rel F G (upd H dx (.own a)) A := R.junk hd
    have ha1 : (upd H dx (.own a)) a = none := by rw [upd_ne (Ne.symm hne)]; exact ha
    have R2 : Rel F G (upd (upd H dx (.own a)) a (.ins (He.ga X.K C) dx [])) ([a] ++ A) := R1.mine ha1
    have I2 : ∀ b ∈ A, (upd (upd H dx (.own a)) a (.ins (He.ga X.K C) dx [])) b = H b := fun b hb => by rw [upd_ne (R1.ne ha1 b hb), upd_ne (R.ne hd b hb)]
    have ht : TIsL X.K G (upd (upd H dx (.own a)) a (.ins (He.ga X.K C) dx [])) (.ref a :: (vs ++ dvs)) (.inst C [] [] :: (xs ++ dvs.map vD).map .d) [a] := TIsL.cons (A := [a]) (B := []) (.inst upd_same rfl .nil) (isL_d i2)
    refine ⟨_, [a], G, ht, ⟨.inl rfl, hn ▸ mOk_d _⟩, R2.gh, R2.left.nd, fun b hb => ⟨(R2.left.fp b hb).1, (R2.left.fp b hb).2.1⟩, ?_⟩
    cases q : Fn' (.inst C [] [] :: (xs ++ dvs.map vD).map .d) with
    | stuck => rw [q] at P; exact P.elim
    | ok t back =>
      rw [q] at P
      intro v G' H' A' B r t' tb
      rw [show maskd (true :: List.replicate n false) (V.ref a :: (vs ++ dvs)) = [V.ref a] from congrArg (V.ref a :: ·) (maskd_d n _)] at tb
      cases tb with
      | @cons _ _ u us Bu Bs hu hs =>
        cases hs
        cases t with
        | d z =>
          cases z with
          | none =>
            cases t' with
            | d t' =>
              obtain ⟨r2, s2, k2⟩ := Rel.back (B := [a]) (A := A) R2 r
              refine ⟨t'.noneE, P (.ref a) G' H' A Bu s2 (I.up s2 fun b hb => (k2 b hb).trans (I2 b hb)) hu ?_⟩
              simpa using r2
          | _ => exact P.elim
        | _ => exact P.elim
    | exc c fs back =>
      rw [q] at P
      intro cls dx' G' H' A' r tb x
      obtain ⟨r2, s2, k2⟩ := Rel.back (B := [a]) (A := A) R2 r
      exact P cls dx' σ G' H' A s2 (I.up s2 fun b hb => (k2 b hb).trans (I2 b hb)) r2.right x
  · rw [if_neg hl] at P; exact P.elim
def dMk (C : Str) (Fn' : Fn) (n : Nat) (dvs : List V) (ds : Ev → Rs (List D)) : DE := fun env => (ds env).bind fun xs env => callM C Fn' n dvs xs env
theorem SE.mk (tk : Takes X W) (hr : Room (k + 1) X.A) (hgd : X.A.guards = some []) (D' : DefI X.prog X.w X.K X.mg X.base C k qs dvs (spF X.K (true :: List.replicate n false) Fn')) (hg : Gl X C) (hdb : (C == ("__debug__" : Str)) = false) (he : starEach (e :: es) X.env = (false, eval e X.env) :: starEach es X.env) (hpl : (backTo pos (starEach es X.env)).any (·.1) = false)
    (ha : SA X W (e :: es) ds) : SE X W (.Call (.Name C p) (e :: es) [] pos) (dMk C Fn' n dvs ds) := fun F qs σ G H A Q env I R P => .of fun pins s J => by
  refine wpAny_Call_Name_kw (ld_glob J hg D'.m (PySem.W.callWith_K (h₀ := X.base) J.ok.mod.kin D'.mkr.kp (thn ((ha.seq (K1 := fun vs H1 => RunCs X (.ref (He.ga X.K C)) vs σ H1 Q) I R P ?_).r pos pins s J) fun us s1 ⟨vs, H1, I1, r, q⟩ => ⟨I1.kIn, q pins s1 us I1 r⟩) he hpl) hdb)
  intro xs env1 vs G1 H1 A1 s1 I1 i1 R1 P1
  exact run_mk D'.mkr D'.c hr hgd tk fun a dx ha hd hne => sp_mk ha hd hne I1 R1 i1 (P1.imp (fun _ _ _ h => h.up s1) fun _ _ _ _ h => h)
theorem SE.mk0 (tk : Takes X W) (hr : Room (k + 1) X.A) (hgd : X.A.guards = some []) (D' : DefI X.prog X.w X.K X.mg X.base C k qs dvs (spF X.K (true :: List.replicate n false) Fn')) (hg : Gl X C) (hdb : (C == ("__debug__" : Str)) = false) : SE X W (.Call (.Name C p) [] [] pos) (dMk C Fn' n dvs dNil) := fun F qs σ G H A Q env I R P => .of fun pins s J => by
  refine wpAny_Call_Name_kw (ld_glob J hg D'.m (PySem.W.callWith_K0 J.kIn D'.mkr.kp ?_) hdb)
  exact run_mk (vs := []) D'.mkr D'.c hr hgd tk (fun a dx ha hd hne => sp_mk ha hd hne I R .nil P) pins s [] J .nil
end
end Dn

namespace Dn
open PySem PySem.Spec PyProof.Rows L2
/-! ### chains -/
theorem bindD_bind {β γ : Type} {r : Rs T} {f : D → Ev → Rs β} {g : β → Ev → Rs γ} : (r.bindD f).bind g = r.bindD fun x e => (f x e).bind g := by cases r <;> rfl
theorem bind_bind {α β γ : Type} {r : Rs α} {f : α → Ev → Rs β} {g : β → Ev → Rs γ} : (r.bind f).bind g = r.bind fun x e => (f x e).bind g := by cases r <;> rfl
section
variable {X : Cx} {W : WX} {F : Fm} {ps : List V} {σ : L2.St} {G H : Hp} {A : List Addr} {env : Ev} {e e2 e3 : Expr} {d d1 d2 : DE} {d3 : Ev → Rs D} {pos : Pos} {β : Type} {ok : β → Ev → Prop} {op op' : CmpOp} {o o' : D → D → Option T}
def chD (o o' : D → D → Option T) (d3 : Ev → Rs D) (x y : D) : DE := fun env => match o x y with
  | some (.d (.bool k)) => if k = true then (d3 env).bind fun z env => ofO (o' y z) env else .ok (.d (.bool false)) env
  | _ => .stuck
def dChain (o o' : D → D → Option T) (d1 d2 : DE) (d3 : Ev → Rs D) : DE := fun env => (d1 env).bindD fun x env => (d2 env).bindD fun y env => chD o o' d3 x y env
theorem chain_run (ho : OpV X (compareOp op) o) (ho' : OpV X (compareOp op') o') (h1 : SE X W e d1) (h2 : SE X W e2 d2) (h3 : SV X W e3 d3) {f : T → Ev → Rs β} {Q : VK} (I : EvIs X.K G H ps σ env A) (R : Rel F G H A)
    (P : ((d1 env).bindD fun x env => (d2 env).bindD fun y env => ((chD o o' d3 x y env).bind f)).post ok (exP X W F ps G))
    (k : ∀ t env' v G' H' A' B, Same G G' → EvIs X.K G' H' ps σ env' A' → TIs X.K G' H' v t B → Rel F G' H' (B ++ A') → (f t env').post ok (exP X W F ps G') → Q v H') :
    tChain (RunO X (compareOp op)) (RunO X (compareOp op')) (RunE X e) (RunE X e2) (RunE X e3) σ H Q :=
  h1.seqD I R P fun x env1 v G1 H1 A1 s1 I1 i1 R1 P1 => h2.seqD I1 R1 P1 fun y env2 u G2 H2 A2 s2 I2 i2 R2 P2 => by
    unfold chD at P2
    cases q : o x y with
    | none => rw [q] at P2; exact P2.elim
    | some t =>
      rw [q] at P2
      cases t with
      | d t =>
        cases t with
        | bool b =>
          refine ho F A2 G2 H2 v u x y _ _ R2 ((i1.up s2).vw R2.gh) (i2.vw R2.gh) q fun v3 G3 H3 B s3 k3 t3 R3 => ?_
          cases t3 with
          | d t3 =>
            cases t3
            refine ⟨b, rfl, ?_⟩
            have I3 := I2.up s3 k3
            cases b with
            | false => exact k _ env2 _ G3 H3 A2 [] ((s1.trans s2).trans s3) I3 (.d (.bl _)) R3 (post_up s3 P2)
            | true =>
              have P3 : ((d3 env2).bind fun z env => (ofO (o' y z) env).bind f).post ok (exP X W F ps G2) := by
                have e : (((d3 env2).bind fun z env => ofO (o' y z) env).bind f) = ((d3 env2).bind fun z env => (ofO (o' y z) env).bind f) := by cases d3 env2 <;> rfl
                rw [← e]; exact P2
              refine h3.seq I3 R3 (post_up s3 P3) fun z env4 w G4 H4 A4 s4 I4 i4 R4 P4 => ?_
              cases q2 : o' y z with
              | none => rw [q2] at P4; exact P4.elim
              | some t4 =>
                rw [q2] at P4
                exact ho' F A4 G4 H4 u w y z t4 Q R4 (((i2.up s3).up s4).vw R4.gh) i4 q2 fun v5 G5 H5 B5 s5 k5 t5 R5 => k t4 env4 v5 G5 H5 A4 B5 ((((s1.trans s2).trans s3).trans s4).trans s5) (I4.up s5 k5) t5 R5 (post_up s5 P4)
        | _ => exact P2.elim
      | _ => exact P2.elim
theorem SE.chain (ho : OpV X (compareOp op) o) (ho' : OpV X (compareOp op') o') (hm : lastMarks [op, op'] [e2, e3] = false) (h1 : SE X W e d1) (h2 : SE X W e2 d2) (h3 : SV X W e3 d3) : SE X W (.Compare e [op, op'] [e2, e3] pos) (dChain o o' d1 d2 d3) := fun F ps σ G H A Q env I R P =>
  PE.go (pe_chain opr_run opr_run pe_run pe_run pe_run hm) (chain_run (f := fun t env => .ok t env) (ok := okE X F ps σ G Q) ho ho' h1 h2 h3 I R (by
    unfold dChain at P
    have e : (fun x env => (d2 env).bindD fun y env => (chD o o' d3 x y env).bind fun t env => Rs.ok t env) = (fun x env => (d2 env).bindD fun y env => chD o o' d3 x y env) := by
      funext x env; congr 1; funext y env; exact bind_ok
    rw [e]; exact P) fun t env' v G' H' A' B s I' i R' P' => (show okE X F ps σ G Q t env' from P') v G' H' A' B s I' i R')
theorem ST.chain (ho : OpV X (compareOp op) o) (ho' : OpV X (compareOp op') o') (hm : lastMarks [op, op'] [e2, e3] = false) (h1 : SE X W e d1) (h2 : SE X W e2 d2) (h3 : SV X W e3 d3) : ST X W (.Compare e [op, op'] [e2, e3] pos) (aB (dChain o o' d1 d2 d3)) := fun F ps σ G H A Q env I R P =>
  PT.go (pt_chain opr_run opr_run pe_run pe_run pe_run hm) (chain_run (f := tB) (ok := okT X F ps σ G Q) ho ho' h1 h2 h3 I R (by
    unfold aB dChain at P
    simp only [bindD_bind] at P
    exact P) fun t env' v G' H' A' B s I' i R' P' => tB_run s I' i R' P')
end
end Dn

namespace Dn
open PySem PySem.Spec PyProof.Rows L2
/-! ### targets of a comprehension: only the own slots are written -/
theorem wipe_get {σ : L2.St} {i : Nat} : ∀ {vs : List Nat}, i ∈ vs → i < σ.length → (wipe σ vs)[i]? = some none
  | [], h, _ => by cases h
  | v :: vs, h, hl => by
    unfold wipe
    by_cases e : v = i
    · subst e; exact List.getElem?_set_self (by rw [wipe_length]; exact hl)
    · rw [List.getElem?_set_ne e]
      exact wipe_get ((List.mem_cons.mp h).resolve_left (Ne.symm e)) hl
theorem wipe_set {σ : L2.St} {i : Nat} {v : Option V} {vs : List Nat} (h : i ∈ vs) : wipe (σ.set i v) vs = wipe σ vs := by
  apply List.ext_getElem?
  intro j
  by_cases hj : j ∈ vs
  · by_cases hl : j < σ.length
    · rw [wipe_get hj hl, wipe_get hj (by rw [List.length_set]; exact hl)]
    · rw [List.getElem?_eq_none (by rw [wipe_length, List.length_set]; omega), List.getElem?_eq_none (by rw [wipe_length]; omega)]
  · rw [wipe_out hj, wipe_out hj, List.getElem?_set_ne (fun e => hj (by rw [← e]; exact h))]
theorem wipe_wipe {σ : L2.St} {vs : List Nat} : wipe (wipe σ vs) vs = wipe σ vs := by
  apply List.ext_getElem?
  intro j
  by_cases hj : j ∈ vs
  · by_cases hl : j < σ.length
    · rw [wipe_get hj hl, wipe_get hj (by rw [wipe_length]; exact hl)]
    · rw [List.getElem?_eq_none (by rw [wipe_length, wipe_length]; omega), List.getElem?_eq_none (by rw [wipe_length]; omega)]
  · rw [wipe_out hj]
def SGw (X : Cx) (ws : List Nat) (tg : Expr) (g : D → Ev → Option Ev) : Prop := ∀ F ps σ G H A v x env env' Q, EvIs X.K G H ps σ env A → Rel F G H A → Is X.K G v x → g x env = some env' →
  (∀ σ' A', EvIs X.K G H ps σ' env' A' → Rel F G H A' → wipe σ' ws = wipe σ ws → Q σ' H) → RunG X tg v σ H Q
def SGsw (X : Cx) (ws : List Nat) (ts : List Expr) (g : List D → Ev → Option Ev) : Prop := ∀ F ps σ G H A vs xs env env' Q, EvIs X.K G H ps σ env A → Rel F G H A → IsL X.K G vs xs → g xs env = some env' →
  (∀ σ' A', EvIs X.K G H ps σ' env' A' → Rel F G H A' → wipe σ' ws = wipe σ ws → Q σ' H) → RunGs X ts vs σ H Q
section
variable {X : Cx} {W : WX} {F : Fm} {ps : List V} {σ : L2.St} {G H : Hp} {A B : List Addr} {env env0 env' : Ev} {e tg : Expr} {es : List Expr} {pos : Pos} {x : Str} {i : Nat} {ws : List Nat}
theorem SGw.name (hN : X.N.Nodup) (hi : X.N[i]? = some x) (hx : locB X.env.scope x = true) (hf : fnB X x = true) (hw : i ∈ ws) : SGw X ws (.Name x pos) (gNm i) := fun F ps σ G H A v z env env' Q I R h e k => by
  have e' : (if isPar (getS env i) = true then none else some (setS env i (.loc (.d z)))) = some env' := e
  by_cases hp : isPar (getS env i) = true
  · rw [if_pos hp] at e'; cases e'
  · rw [if_neg hp] at e'
    cases e'
    obtain ⟨A', I', R'⟩ := I.putR (by simpa using hp) (B := []) (.d h) R
    exact PG.go (pg_name hN hi (loc_of hx) (fn_ofB hf)) (k _ A' I' R' (wipe_set hw))
theorem SGsw.nil : SGsw X ws [] gNil := fun F ps σ G H A vs xs env env' Q I R h e k => by
  cases h with
  | nil => cases e; exact PGs.go pgs_nil ⟨rfl, k σ A I R rfl⟩
  | cons => cases e
theorem SGsw.cons {g : D → Ev → Option Ev} {gs : List D → Ev → Option Ev} (hs : (assignEach (e :: es) X.env).map (·.2) = assign e X.env :: (assignEach es X.env).map (·.2)) (h1 : SGw X ws e g) (h2 : SGsw X ws es gs) : SGsw X ws (e :: es) (gCons g gs) := fun F ps σ G H A vs xs env env' Q I R h e k => by
  cases h with
  | nil => cases e
  | cons h t =>
    obtain ⟨env1, e1, e2⟩ := Option.bind_eq_some_iff.mp e
    exact PGs.go (pgs_cons pg_run pgs_run hs) ⟨_, _, rfl, h1 F ps σ G H A _ _ env env1 _ I R h e1 fun σ1 A1 I1 R1 w1 => h2 F ps σ1 G H A1 _ _ env1 env' Q I1 R1 t e2 fun σ2 A2 I2 R2 w2 => k σ2 A2 I2 R2 (w2.trans w1)⟩
theorem SGw.tup {n k1 : Nat} {gs : List D → Ev → Option Ev} (hc : X.calm = true) (hn : (assignEach es X.env).length = n) (hst : (assignEach es X.env).findIdx? (·.1) = none) (h : SGsw X ws es gs) : SGw X ws (.Tuple es k1 pos) (gTup n gs) := fun F ps σ G H A v x env env' Q I R h1 e k => by
  cases x with
  | tup xs =>
    have e : (if xs.length = n then gs xs env else none) = some env' := e
    by_cases hl : xs.length = n
    · rw [if_pos hl] at e
      obtain ⟨a, vs, rfl, ha, r⟩ := h1.tupE
      exact PG.go (pg_tup hc pgs_run (hn.trans hl.symm) hst) ⟨a, vs, rfl, SqT.of (R.gh _ _ ha), r.length, h F ps σ G H A vs xs env env' Q I R r e k⟩
    · rw [if_neg hl] at e; cases e
  | _ => cases e
end
/-! ### the own slots forgotten, put back -/
def clrO (env : Ev) : List Nat → Option Ev
  | [] => some env
  | v :: vs => (clrO env vs).bind fun e => if isPar (getS e v) = true then none else some (setS e v .none)
def flatS : Slot → Bool
  | .none => true
  | .loc (.d _) => true
  | _ => false
def rstO (env0 : Ev) : List Nat → Ev → Ev
  | [], env => env
  | v :: vs, env => rstO env0 vs (setS env v (getS env0 v))
section
variable {K : PySem.W.Frag} {ps : List V} {σ : L2.St} {G H : Hp} {A B : List Addr} {env env0 env' : Ev}
theorem EvIs.clr (I : EvIs K G H ps σ env A) : ∀ {vs : List Nat} {env' : Ev}, clrO env vs = some env' → ∃ A', EvIs K G H ps (wipe σ vs) env' A' ∧ A'.Sublist A
  | [], env', e => by cases e; exact ⟨A, I, List.Sublist.refl _⟩
  | v :: vs, env', e => by
    obtain ⟨e1, q1, q2⟩ := Option.bind_eq_some_iff.mp (show (clrO env vs).bind _ = some env' from e)
    obtain ⟨A1, I1, s1⟩ := EvIs.clr I q1
    by_cases hp : isPar (getS e1 v) = true
    · rw [if_pos hp] at q2; cases q2
    · rw [if_neg hp] at q2
      cases q2
      obtain ⟨A2, I2, s2⟩ := I1.unset (i := v) (by simpa using hp)
      exact ⟨A2, I2, s2.trans s1⟩
theorem EvIs.reset : ∀ {ps : List V} {σ : L2.St} {env : Ev} {A : List Addr} {i : Nat} {o : Option V} {s : Slot}, EvIs K G H ps (σ.set i Option.none) env A → getS env i = .none → σ[i]? = some o → (s = .none ∨ ∃ x v, s = .loc (.d x) ∧ o = some v ∧ Is K G v x) → EvIs K G H ps σ (setS env i s) A
  | ps, [], env, A, i, o, s, I, hg, ho, h => by cases ho
  | ps, u :: σ, env, A, 0, o, s, I, hg, ho, h => by
    have ho : u = o := by simpa using ho
    subst ho
    have I : EvIs K G H ps (Option.none :: σ) env A := I
    cases I with
    | none r =>
      rcases h with rfl | ⟨x, v, rfl, rfl, hx⟩
      · exact .none r
      · exact .loc (A := []) (.d hx) r
  | ps, u :: σ, env, A, i + 1, o, s, I, hg, ho, h => by
    have I : EvIs K G H ps (u :: σ.set i Option.none) env A := I
    have ho : σ[i]? = some o := by simpa using ho
    cases I with
    | none r => exact .none (EvIs.reset r hg ho h)
    | loc h1 r => exact .loc h1 (EvIs.reset r hg ho h)
    | par h1 r => exact .par h1 (EvIs.reset r hg ho h)
theorem EvIs.length {ps : List V} {σ : L2.St} {env : Ev} {A : List Addr} (I : EvIs K G H ps σ env A) : σ.length = env.length := by
  induction I with
  | nil => rfl
  | none r ih => exact congrArg (· + 1) ih
  | loc h r ih => exact congrArg (· + 1) ih
  | par h r ih => exact congrArg (· + 1) ih
theorem getS_ge : ∀ {env : Ev} {i : Nat}, env.length ≤ i → getS env i = .none
  | [], _, _ => rfl
  | _ :: _, 0, h => by simp at h
  | _ :: r, i + 1, h => getS_ge (env := r) (by simpa using h)
theorem setS_ge : ∀ {env : Ev} {i : Nat} {s : Slot}, env.length ≤ i → setS env i s = env
  | [], _, _, _ => rfl
  | _ :: _, 0, _, h => by simp at h
  | x :: r, i + 1, s, h => congrArg (x :: ·) (setS_ge (env := r) (by simpa using h))
theorem setS_len : ∀ {env : Ev} {i : Nat} {s : Slot}, (setS env i s).length = env.length
  | [], _, _ => rfl
  | _ :: _, 0, _ => rfl
  | _ :: r, i + 1, s => congrArg (· + 1) (setS_len (env := r))
theorem getS_setS_self : ∀ {env : Ev} {i : Nat}, getS (setS env i .none) i = .none
  | [], _ => rfl
  | _ :: _, 0 => rfl
  | _ :: r, i + 1 => getS_setS_self (env := r)
theorem clr_none {env env' : Ev} : ∀ {vs : List Nat} {env' : Ev}, clrO env vs = some env' → ∀ v ∈ vs, getS env' v = .none
  | [], _, _, v, h => by cases h
  | w :: vs, env', e, v, h => by
    obtain ⟨e1, q1, q2⟩ := Option.bind_eq_some_iff.mp (show (clrO env vs).bind _ = some env' from e)
    by_cases hp : isPar (getS e1 w) = true
    · rw [if_pos hp] at q2; cases q2
    · rw [if_neg hp] at q2
      cases q2
      by_cases ew : w = v
      · subst ew; exact getS_setS_self
      · rw [getS_setS_ne ew]
        exact clr_none (env' := env') q1 v ((List.mem_cons.mp h).resolve_left (Ne.symm ew))
/-- what the slots held is there again -/
theorem EvIs.rst {G0 H0 : Hp} {A0 : List Addr} (I0 : EvIs K G0 H0 ps σ env0 A0) (s : Same G0 G) : ∀ {vs : List Nat} {env : Ev} {A : List Addr}, vs.Nodup → (∀ v ∈ vs, flatS (getS env0 v) = true) → (∀ v ∈ vs, getS env v = .none) → EvIs K G H ps (wipe σ vs) env A → EvIs K G H ps σ (rstO env0 vs env) A
  | [], env, A, _, _, _, I => I
  | v :: vs, env, A, nd, hf, hn, I => by
    obtain ⟨n1, n2⟩ := List.nodup_cons.mp nd
    unfold rstO
    refine EvIs.rst I0 s n2 (fun w hw => hf w (List.mem_cons_of_mem _ hw)) (fun w hw => ?_) ?_
    · rw [getS_setS_ne (fun e => n1 (by rw [e]; exact hw))]
      exact hn w (List.mem_cons_of_mem _ hw)
    · have I : EvIs K G H ps ((wipe σ vs).set v Option.none) env A := I
      by_cases hl : v < σ.length
      · have ho : (wipe σ vs)[v]? = some σ[v] := by rw [wipe_out n1, List.getElem?_eq_getElem hl]
        refine EvIs.reset I (hn v List.mem_cons_self) ho ?_
        have hfl := hf v List.mem_cons_self
        cases q : getS env0 v with
        | none => exact .inl rfl
        | par t => rw [q] at hfl; cases hfl
        | loc t =>
          rw [q] at hfl
          cases t with
          | d x =>
            obtain ⟨u, B, C, h1, h2, _⟩ := I0.tree (i := v) (t := .d x) (by rw [q]; rfl)
            rw [List.getElem?_eq_getElem hl] at h1
            cases h2 with
            | d h2 => exact .inr ⟨x, u, rfl, Option.some.inj h1, h2.up s⟩
          | _ => cases hfl
      · have hl : σ.length ≤ v := Nat.le_of_not_lt hl
        have e1 : (wipe σ vs).set v Option.none = wipe σ vs := List.set_eq_of_length_le (by rw [wipe_length]; exact hl)
        rw [e1] at I
        rw [setS_ge (by rw [← I.length, wipe_length]; exact hl)]
        exact I
end
/-! ### tests -/
structure RunTs (X : Cx) (ifs : List Expr) (σ : L2.St) (H : Hp) (Q : Bool → Hp → Prop) : Prop where of ::
  r : ∀ (pins : List (Addr × Obj)) (s : Shared), Inv X pins σ H s →
  wpAny (model X.prog X.w) X.A (forIn ifs true fun c r => if r = true then do let ok ← isTrue c X.env (eval c X.env); pure (ForInStep.yield ok) else pure (ForInStep.yield r)) (TP X pins σ Q) X.xe s
theorem pts_run {X : Cx} {ifs : List Expr} : PTs X ifs (RunTs X ifs) := ⟨fun pins s _ _ _ I h => h.r pins s I⟩
def STs (X : Cx) (W : WX) (ifs : List Expr) (d : Ev → Rs Bool) : Prop :=
  ∀ F ps σ G H A Q env, EvIs X.K G H ps σ env A → Rel F G H A → (d env).post (okT X F ps σ G Q) (exP X W F ps G) → RunTs X ifs σ H Q
def dYes : Ev → Rs Bool := fun env => .ok true env
section
variable {X : Cx} {W : WX} {F : Fm} {ps : List V} {σ : L2.St} {G H : Hp} {A : List Addr} {env : Ev} {β : Type} {ok : β → Ev → Prop} {ifs : List Expr} {e : Expr} {d : Ev → Rs Bool}
theorem STs.nil : STs X W [] dYes := fun F ps σ G H A Q env I R P => .of fun pins s J => pts_nil.run pins s σ H Q J (P G H A (Same.refl G) I R)
theorem STs.one (h : ST X W e d) : STs X W [e] d := fun F ps σ G H A Q env I R P => .of fun pins s J => (pts_one pt_run).run pins s σ H Q J (h F ps σ G H A Q env I R P)
theorem STs.seq {K1 : Bool → Hp → Prop} (h : STs X W ifs d) {f : Bool → Ev → Rs β} (I : EvIs X.K G H ps σ env A) (R : Rel F G H A) (P : ((d env).bind f).post ok (exP X W F ps G))
    (k : ∀ b env' G' H' A', Same G G' → EvIs X.K G' H' ps σ env' A' → Rel F G' H' A' → (f b env').post ok (exP X W F ps G') → K1 b H') : RunTs X ifs σ H K1 := by
  refine h F ps σ G H A K1 env I R ?_
  cases q : d env with
  | ok t env' =>
    rw [q] at P
    exact fun G' H' A' s I' R' => k t env' G' H' A' s I' R' (post_up s P)
  | exc c fs env' => rw [q] at P; exact P
  | stuck => rw [q] at P; exact P
end
/-! ### [elt for tg in iter if ..] -/
/-- nothing may be raised -/
def noX {α : Type} : Rs α → Rs α
  | .exc _ _ _ => .stuck
  | r => r
theorem noX_post {α β : Type} {r : Rs α} {f : α → Ev → Rs β} {ok : β → Ev → Prop} {ex ex' : XC → Fds → Ev → Prop} (P : ((noX r).bind f).post ok ex) : r.post (fun a e => (f a e).post ok ex) ex' := by
  cases r with
  | ok a e => exact P
  | exc c fs e => exact P.elim
  | stuck => exact P.elim
def clrR {α : Type} (a : α) (ws : List Nat) (env : Ev) : Rs α := match clrO env ws with
  | some e => .ok a e
  | none => .stuck
/-- a turn: what it adds -/
def turnE {ζ : Type} (ws : List Nat) (g : D → Ev → Option Ev) (t : Ev → Rs Bool) (em : Ev → Rs ζ) (x : D) (env : Ev) : Rs (Option ζ) := match g x env with
  | none => .stuck
  | some env1 => (t env1).bind fun b env => if b = true then (em env).bind fun y env => clrR (some y) ws env else clrR none ws env
/-- .. of a list -/
def emD (d : DE) : Ev → Rs D := fun env => (d env).bindD fun y env => .ok y env
abbrev turnD (ws : List Nat) (g : D → Ev → Option Ev) (t : Ev → Rs Bool) (d : DE) : D → Ev → Rs (Option D) := turnE ws g t (emD d)
def compL {ζ : Type} (tn : D → Ev → Rs (Option ζ)) : List D → Ev → Rs (List ζ)
  | [], env => .ok [] env
  | x :: xs, env => (noX (tn x env)).bind fun o env => (compL tn xs env).bind fun ys env => .ok (o.toList ++ ys) env
def okW (env : Ev) (ws : List Nat) : Bool := ws.all fun v => flatS (getS env v)
/-- the whole; N: how many turns at most -/
def dComp {ζ : Type} (N : Nat) (it : Ev → Rs (List D)) (ws : List Nat) (tn : D → Ev → Rs (Option ζ)) (f : List ζ → T) : DE := fun env => (it env).bind fun xs env => if xs.length < N ∧ okW env ws = true then (match clrO env ws with
  | some env1 => (compL tn xs env1).bind fun ys env2 => .ok (f ys) (rstO env ws env2)
  | none => .stuck) else .stuck
abbrev dLc (it : Ev → Rs (List D)) (ws : List Nat) (tn : D → Ev → Rs (Option D)) : DE := dComp 1000000 it ws tn .lst
abbrev Bk (X : Cx) (s : Shared) (H : Hp) (scope : Scope) (C : Addr) (cl : List (Str × Addr)) (fp : List Addr) : Cx := X.blk s H scope (compEnvC scope cl C X.env) fp
abbrev W0 : WX := fun _ _ _ _ => False
section
variable {X : Cx} {W : WX} {F : Fm} {ps : List V} {σ : L2.St} {G H : Hp} {A : List Addr} {env : Ev} {elt tg iter : Expr} {ifs : List Expr} {scope : Scope} {own : List (Str × Nat)} {pos : Pos} {it : Ev → Rs (List D)} {g : D → Ev → Option Ev} {t : Ev → Rs Bool} {d : DE}
/-- the readings of the block's parts, whatever the block -/
def gAll (X : Cx) (scope : Scope) (tg : Expr) : TG := fun v σ H Q => ∀ s H0 C cl fp, RunG (Bk X s H0 scope C cl fp) tg v σ H Q
def tAll (X : Cx) (scope : Scope) (ifs : List Expr) : L2.TT := fun σ H Q => ∀ s H0 C cl fp, RunTs (Bk X s H0 scope C cl fp) ifs σ H Q
def eAll (X : Cx) (scope : Scope) (e : Expr) : TE := fun σ H Q => ∀ s H0 C cl fp, RunE (Bk X s H0 scope C cl fp) e σ H Q
def iAll (X : Cx) (scope : Scope) (tg e : Expr) : TI := fun σ H Q => ∀ s H0 C cl fp, RunIter (Bk X s H0 scope C cl fp) tg e σ H Q
theorem post_bind {α β : Type} {r : Rs α} {f : α → Ev → Rs β} {ok : β → Ev → Prop} {ex : XC → Fds → Ev → Prop} (P : (r.bind f).post ok ex) : r.post (fun a e => (f a e).post ok ex) ex := by
  cases r with
  | ok a e => exact P
  | exc c fs e => exact P
  | stuck => exact P
/-- how a turn's end writes to the new object: Ac what it is by what was added -/
def Emits {ζ : Type} (X : Cx) (Dn : Addr) (N : Nat) (Ac : Hp → List ζ → HO → Prop) (em : Ev → Rs ζ) (Em : L2.St → Hp → (Hp → Prop) → Prop) : Prop := ∀ F ps σ G H A env (ads : List ζ) (o : HO) (Nx : Hp → Prop), EvIs X.K G H ps σ env A → Rel F G H A → ads.length < N → ¬ F.P Dn → F.H0 Dn = some o → Ac G ads o →
  (em env).post (fun z env' => ∀ G' H' A' o', Same G G' → EvIs X.K G' H' ps σ env' A' → Rel F G' H' A' → Ac G' (ads ++ [z]) o' → Nx (upd H' Dn o')) (exP X W0 F ps G) → Em σ H Nx
/-- a comprehension's loop -/
theorem loop_run {ζ : Type} {ws : List Nat} {N : Nat} {em : Ev → Rs ζ} {Em : L2.St → Hp → (Hp → Prop) → Prop} {Ac : Hp → List ζ → HO → Prop} {Dn : Addr} (up : ∀ G G' ads o, Same G G' → Ac G ads o → Ac G' ads o) (hem : Emits X Dn N Ac em Em) (hg : ∀ s H C cl fp, SGw (Bk X s H scope C cl fp) ws tg g) (ht : ∀ s H C cl fp, STs (Bk X s H scope C cl fp) W0 ifs t)
    {J : It} {G1 H1 : Hp} {xs : List D} (w : Walked X.K J G1 xs) {Nx : Hp → Prop}
    {A1 : List Addr} {env1 : Ev} {o1 : HO} {ads : List ζ} {ex : XC → Fds → Ev → Prop} (I1 : EvIs X.K G1 H1 ps (wipe σ ws) env1 A1) (hn1 : ∀ v ∈ ws, getS env1 v = .none) (R1 : Rel F G1 H1 (A1 ++ [Dn])) (hacc : H1 Dn = some o1) (iacc : Ac G1 ads o1) (hlen : ads.length + xs.length < N)
    (P : (compL (turnE ws g t em) xs env1).post (fun ys env' => ∀ G' H' A' o', Same G1 G' → EvIs X.K G' H' ps (wipe σ ws) env' A' → (∀ v ∈ ws, getS env' v = .none) → Rel F G' H' (A' ++ [Dn]) → H' Dn = some o' → Ac G' (ads ++ ys) o' → Nx H') ex) :
    ∃ Wl : Nat → Nat → Hp → Prop, (∃ m, Wl 0 m H1) ∧ ∀ i m H, Wl i m H → (J.stop i H ∧ Nx H) ∨ (J.go i H ∧ ∃ Nx1 : Hp → Prop, (∀ H', Nx1 H' → ∃ m', m' < m ∧ Wl (i + 1) m' H') ∧ ∀ x H', J.yld i H x H' → gAll X scope tg x (wipe σ ws) H' fun σ2 H2 => wipe σ2 ws = wipe σ ws ∧ tAll X scope ifs σ2 H2 fun b H3 =>
      if b = true then Em σ2 H3 Nx1 else Nx1 H3) := by
  obtain ⟨tn, htn⟩ : ∃ tn, tn = turnE ws g t em := ⟨_, rfl⟩
  rw [← htn] at P
  let Inv1 : Nat → Hp → Prop := fun i H => ∃ G2 A2 env2 o2 zs, Same G1 G2 ∧ EvIs X.K G2 H ps (wipe σ ws) env2 A2 ∧ (∀ v ∈ ws, getS env2 v = .none) ∧ Rel F G2 H (A2 ++ [Dn]) ∧ H Dn = some o2 ∧ Ac G2 (ads ++ zs) o2 ∧ zs.length ≤ i ∧
    (compL tn (xs.drop i) env2).post (fun ys env' => ∀ G' H' A' o', Same G1 G' → EvIs X.K G' H' ps (wipe σ ws) env' A' → (∀ v ∈ ws, getS env' v = .none) → Rel F G' H' (A' ++ [Dn]) → H' Dn = some o' → Ac G' (ads ++ (zs ++ ys)) o' → Nx H') ex
  refine ⟨fun i m H => m = xs.length - i ∧ i ≤ xs.length ∧ Inv1 i H, ⟨xs.length, by simp, Nat.zero_le _, G1, A1, env1, o1, [], Same.refl G1, I1, hn1, R1, hacc, by rw [List.append_nil]; exact iacc, Nat.le_refl _, by simpa using P⟩, ?_⟩
  rintro i m H2 ⟨rfl, hi2, G2, A3, env3, o3, zs, s2, I3, hn3, R3, hacc3, iacc3, lacc, P2⟩
  by_cases hl : i < xs.length
  · refine .inr ⟨w.go F i G2 H2 _ hl R3 s2, Inv1 (i + 1), fun H' z => ⟨xs.length - (i + 1), by omega, rfl, hl, z⟩, fun v H3 y => ?_⟩
    obtain ⟨G3, s3, R4, k3, i3⟩ := w.yl F i _ v G2 H2 H3 _ (List.getElem?_eq_getElem hl) R3 s2 y
    have I4 : EvIs X.K G3 H3 ps (wipe σ ws) env3 A3 := I3.up s3 fun a ha => k3 a (List.mem_append_left _ ha)
    have hacc4 : H3 Dn = some o3 := by rw [k3 Dn (List.mem_append_right _ List.mem_cons_self)]; exact hacc3
    have e : xs.drop i = xs[i] :: xs.drop (i + 1) := List.drop_eq_getElem_cons hl
    rw [e] at P2
    unfold compL at P2
    have P3 := noX_post (ex' := fun _ _ _ => False) P2
    have e3 : tn xs[i] env3 = (match g xs[i] env3 with
      | none => .stuck
      | some env1 => (t env1).bind fun b env => if b = true then (em env).bind fun y env => clrR (some y) ws env else clrR none ws env) := by rw [htn]; rfl
    rw [e3] at P3
    have fin : ∀ {G6 H6 : Hp} {A6 : List Addr} {env6 : Ev} {σ4 : L2.St} {o : Option ζ} {o6 : HO}, Same G3 G6 → wipe σ4 ws = wipe σ ws → EvIs X.K G6 H6 ps σ4 env6 A6 → Rel F G6 H6 (A6 ++ [Dn]) → H6 Dn = some o6 → Ac G6 (ads ++ zs ++ o.toList) o6 → 
        (clrR o ws env6).post (fun a e => ((compL tn (xs.drop (i + 1)) e).bind fun ys env => .ok (a.toList ++ ys) env).post (fun ys env' => ∀ G' H' A' o', Same G1 G' → EvIs X.K G' H' ps (wipe σ ws) env' A' → (∀ v ∈ ws, getS env' v = .none) → Rel F G' H' (A' ++ [Dn]) → H' Dn = some o' → Ac G' (ads ++ (zs ++ ys)) o' → Nx H') ex) (fun _ _ _ => False) → Inv1 (i + 1) H6 := by
      intro G6 H6 A6 env6 σ4 o o6 s6 hw I6 R6 ha6 ia6 P6
      unfold clrR at P6
      cases q3 : clrO env6 ws with
      | none => rw [q3] at P6; exact P6.elim
      | some env7 =>
        rw [q3] at P6
        obtain ⟨A7, I9, sl7⟩ := I6.clr q3
        rw [hw] at I9
        have r9 : Rel F G6 H6 (A7 ++ [Dn]) := R6.sub (fun a ha => (List.Sublist.append_right sl7 _).subset ha) ((List.Sublist.append_right sl7 _).nodup R6.nd)
        refine ⟨G6, A7, env7, o6, zs ++ o.toList, s2.trans (s3.trans s6), I9, clr_none (env' := env7) q3, r9, ha6, by rw [← List.append_assoc]; exact ia6, ?_, ?_⟩
        · rw [List.length_append]
          have : o.toList.length ≤ 1 := by cases o <;> simp
          omega
        have P7 : ((compL tn (xs.drop (i + 1)) env7).bind fun ys env => Rs.ok (o.toList ++ ys) env).post (fun ys env' => ∀ G' H' A' o', Same G1 G' → EvIs X.K G' H' ps (wipe σ ws) env' A' → (∀ v ∈ ws, getS env' v = .none) → Rel F G' H' (A' ++ [Dn]) → H' Dn = some o' → Ac G' (ads ++ (zs ++ ys)) o' → Nx H') ex := P6
        refine (post_bind P7).imp (fun ys env' _ z => ?_) fun _ _ _ _ h => h
        have z : ∀ G' H' A' o', Same G1 G' → EvIs X.K G' H' ps (wipe σ ws) env' A' → (∀ v ∈ ws, getS env' v = .none) → Rel F G' H' (A' ++ [Dn]) → H' Dn = some o' → Ac G' (ads ++ (zs ++ (o.toList ++ ys))) o' → Nx H' := z
        rw [← List.append_assoc zs] at z
        exact z
    cases q2 : g xs[i] env3 with
    | none => rw [q2] at P3; exact P3.elim
    | some env4 =>
      rw [q2] at P3
      dsimp only at P3
      intro sB HB CB clB fpB
      refine hg sB HB CB clB fpB ⟨G3, H3, fun a => a ∈ A3⟩ ps (wipe σ ws) G3 H3 A3 v _ env3 env4 _ I4 (R4.start (fun b hb => List.mem_append_left _ hb) R4.left.nd) i3 q2 fun σ4 A4 I5 R5 hw4 => ⟨hw4.trans wipe_wipe, ?_⟩
      rw [wipe_wipe] at hw4
      intro sC HC CC clC fpC
      refine (ht sC HC CC clC fpC).seq (ok := fun a e => ((compL tn (xs.drop (i + 1)) e).bind fun ys env => .ok (a.toList ++ ys) env).post (fun ys env' => ∀ G' H' A' o', Same G1 G' → EvIs X.K G' H' ps (wipe σ ws) env' A' → (∀ v ∈ ws, getS env' v = .none) → Rel F G' H' (A' ++ [Dn]) → H' Dn = some o' → Ac G' (ads ++ (zs ++ ys)) o' → Nx H') ex) I5 R5 (P3.imp (fun _ _ _ h => h) fun _ _ _ _ h => h.elim) fun b env5 G5 H5 A5 s5 I6 R6 P4 => ?_
      have nP : Dn ∉ A3 := fun z => R4.dj Dn List.mem_cons_self z
      cases b with
      | true =>
        show Em σ4 H5 _
        have P4 := post_bind (show ((em env5).bind fun y env => clrR (some y) ws env).post _ _ from P4)
        have ia5 := up _ _ _ _ (s3.trans R6.g) iacc3
        refine hem ⟨G3, H3, fun a => a ∈ A3⟩ ps σ4 G5 H5 A5 env5 (ads ++ zs) o3 _ I6 R6 (by rw [List.length_append]; omega) nP hacc4 ia5 (P4.imp (fun z env6 _ P5 => ?_) fun _ _ _ _ h => h)
        intro G6 H6 A6 o6 s6 I7 R7 ia6
        obtain ⟨r8, s8, k8⟩ := Rel.back (B := A3) (A := [Dn]) R4 R7
        have nD6 : ∀ a ∈ A6, a ≠ Dn := fun a ha e => r8.dj Dn List.mem_cons_self (e ▸ ha)
        refine fin (o := some z) s8 hw4 (I7.up (Same.refl G6) (upd_off nD6)) (r8.put (List.mem_append_right _ List.mem_cons_self)) upd_same ia6 (P5.imp (fun _ _ _ h => h) fun c fs e' q _ => ?_)
        unfold clrR at q
        cases q3 : clrO env6 ws with
        | none => rw [q3] at q; cases q
        | some _ => rw [q3] at q; cases q
      | false =>
        obtain ⟨r8, s8, k8⟩ := Rel.back (B := A3) (A := [Dn]) R4 R6
        have hacc6 : H5 Dn = some o3 := by rw [k8 Dn List.mem_cons_self]; exact hacc4
        have P4 : (clrR (none : Option ζ) ws env5).post _ _ := P4
        refine fin (o := none) s8 hw4 I6 r8 hacc6 (by simpa using up _ _ _ _ (s3.trans s8) iacc3) (P4.imp (fun _ _ _ h => h) fun c fs e' q _ => ?_)
        unfold clrR at q
        cases q3 : clrO env5 ws with
        | none => rw [q3] at q; cases q
        | some _ => rw [q3] at q; cases q
  · have e : i = xs.length := by omega
    subst e
    rw [List.drop_length] at P2
    have P2 := P2 G2 H2 A3 o3 s2 I3 hn3 R3 hacc3
    rw [List.append_nil] at P2
    exact .inl ⟨w.st F G2 H2 _ R3 s2, P2 iacc3⟩
/-- the whole, up to the reading of the new object -/
theorem comp_run {ζ : Type} {N : Nat} {em : Ev → Rs ζ} {Em : Addr → L2.St → Hp → (Hp → Prop) → Prop} {Ac : Addr → Hp → List ζ → HO → Prop} {f : List ζ → T} {o0 : Addr → HO} {vs : List Nat} (up : ∀ Dn G G' ads o, Same G G' → Ac Dn G ads o → Ac Dn G' ads o) (h0 : ∀ Dn G, Ac Dn G [] (o0 Dn)) (hem : ∀ Dn, Emits X Dn N (Ac Dn) em (Em Dn)) (hg : ∀ s H C cl fp, SGw (Bk X s H scope C cl fp) vs tg g) (ht : ∀ s H C cl fp, STs (Bk X s H scope C cl fp) W0 ifs t)
    (hi : SI X W tg iter it) (nd : vs.Nodup)
    {Q : VK} (I : EvIs X.K G H ps σ env A) (R : Rel F G H A) (P : (dComp N it vs (turnE vs g t em) f env).post (fun u env' => ∀ Dn G' H' A' o ads, u = f ads → Same G G' → EvIs X.K G' H' ps σ env' A' → Rel F G' H' ([Dn] ++ A') → H' Dn = some o → Ac Dn G' ads o → Q (.ref Dn) H') (exP X W F ps G)) :
    RunIter X tg iter σ H fun J H1 => ∀ Dn, H1 Dn = none → ∃ W : Nat → Nat → Hp → Prop, (∃ m, W 0 m (upd H1 Dn (o0 Dn))) ∧ ∀ i m H, W i m H →
      (J.stop i H ∧ Q (.ref Dn) H) ∨ (J.go i H ∧ ∃ Nx : Hp → Prop, (∀ H', Nx H' → ∃ m', m' < m ∧ W (i + 1) m' H') ∧ ∀ x H', J.yld i H x H' → gAll X scope tg x (wipe σ vs) H' fun σ2 H2 => wipe σ2 vs = wipe σ vs ∧ tAll X scope ifs σ2 H2 fun b H3 =>
        if b = true then Em Dn σ2 H3 Nx else Nx H3) := by
  refine hi F ps σ G H A _ env I R ?_
  unfold dComp at P
  cases q0 : it env with
  | stuck => rw [q0] at P; exact P.elim
  | exc c fs env1 => rw [q0] at P; exact P
  | ok xs env1 =>
    rw [q0] at P
    have P : (if xs.length < N ∧ okW env1 vs = true then (match clrO env1 vs with
      | some env2 => (compL (turnE vs g t em) xs env2).bind fun ys env3 => Rs.ok (f ys) (rstO env1 vs env3)
      | none => .stuck) else .stuck).post (fun u env' => ∀ Dn G' H' A' o ads, u = f ads → Same G G' → EvIs X.K G' H' ps σ env' A' → Rel F G' H' ([Dn] ++ A') → H' Dn = some o → Ac Dn G' ads o → Q (.ref Dn) H') (exP X W F ps G) := P
    by_cases hz : xs.length < N ∧ okW env1 vs = true
    · rw [if_pos hz] at P
      cases q1 : clrO env1 vs with
      | none => rw [q1] at P; exact P.elim
      | some env2 =>
        rw [q1] at P
        have P := post_bind (show ((compL (turnE vs g t em) xs env2).bind fun ys env3 => Rs.ok (f ys) (rstO env1 vs env3)).post _ _ from P)
        intro J G1 H1 A1 s1 I1 R1 w Dn hD
        have hflat : ∀ v ∈ vs, flatS (getS env1 v) = true := fun v hv => List.all_eq_true.mp hz.2 v hv
        obtain ⟨A2, I2, sl2⟩ := I1.clr q1
        have R2 : Rel F G1 (upd H1 Dn (o0 Dn)) (A2 ++ [Dn]) := by
          have r := (R1.sub (fun a ha => sl2.subset ha) (sl2.nodup R1.nd)).mine (o := o0 Dn) hD
          exact r.perm (by show (Dn :: A2).Perm _; exact (List.perm_append_singleton Dn A2).symm)
        have nD : ∀ a ∈ A2, a ≠ Dn := fun a ha => R1.ne hD a (sl2.subset ha)
        refine loop_run (up Dn) (hem Dn) hg ht w (ads := []) (I2.up (Same.refl G1) (upd_off nD)) (clr_none (env' := env2) q1) R2 upd_same (h0 Dn G1) (by simpa using hz.1) (P.imp (fun ys env3 _ z => ?_) fun _ _ _ _ h => h)
        intro G2 H2 A3 o s2 I3 hn3 R3 hacc iacc
        exact z Dn G2 H2 A3 o ys rfl (s1.trans s2) (EvIs.rst I1 s2 nd hflat hn3 I3) (R3.perm List.perm_append_comm) hacc iacc
    · rw [if_neg hz] at P; exact P.elim
/-- lists -/
def AcL (K : PySem.W.Frag) (G : Hp) (ads : List D) (o : HO) : Prop := ∃ acc, o = .lst acc ∧ IsL K G acc ads
theorem acL_up {K : PySem.W.Frag} (G G' : Hp) (ads : List D) (o : HO) (s : Same G G') : AcL K G ads o → AcL K G' ads o := fun ⟨acc, e, r⟩ => ⟨acc, e, r.up s⟩
theorem emits_lst (he : ∀ s H C cl fp, SE (Bk X s H scope C cl fp) W0 elt d) (Dn : Addr) : Emits X Dn 1000000 (AcL X.K) (emD d) fun σ2 H3 Nx => eAll X scope elt σ2 H3 fun y H4 => ∃ acc, H4 Dn = some (.lst acc) ∧ acc.length < sizeLine ∧ Nx (upd H4 Dn (.lst (acc ++ [y]))) := by
  intro F ps σ G H A env ads o Nx I R hl hP h0 ⟨acc, eo, ia⟩ P sD HD CD clD fpD
  subst eo
  refine (he sD HD CD clD fpD).seqD I R (show ((d env).bindD fun y env => Rs.ok y env).post _ _ from P) fun z env6 vz G6 H6 A6 s6 I7 i7 R7 P5 => ?_
  refine ⟨acc, R7.keep Dn _ hP h0, Nat.lt_of_lt_of_le (by rw [ia.length]; exact hl) (Nat.le_of_lt sqLine), ?_⟩
  exact P5 G6 H6 A6 _ s6 I7 R7 ⟨acc ++ [vz], rfl, (ia.up s6).snoc i7⟩
theorem lc_run (hg : ∀ s H C cl fp, SGw (Bk X s H scope C cl fp) (own.map (·.2)) tg g) (ht : ∀ s H C cl fp, STs (Bk X s H scope C cl fp) W0 ifs t) (he : ∀ s H C cl fp, SE (Bk X s H scope C cl fp) W0 elt d) (hi : SI X W tg iter it) (nd : (own.map (·.2)).Nodup)
    {Q : VK} (I : EvIs X.K G H ps σ env A) (R : Rel F G H A) (P : (dLc it (own.map (·.2)) (turnD (own.map (·.2)) g t d) env).post (okE X F ps σ G Q) (exP X W F ps G)) :
    tLc (RunIter X tg iter) (gAll X scope tg) (tAll X scope ifs) (eAll X scope elt) (own.map (·.2)) σ H Q :=
  comp_run (o0 := fun _ => .lst []) (f := T.lst) (Ac := fun _ => AcL X.K) (fun _ => acL_up) (fun _ _ => ⟨[], rfl, .nil⟩) (emits_lst he) hg ht hi nd I R (P.imp (fun u env' _ h Dn G' H' A' o ads e s' I' R' ho ⟨acc, eo, ia⟩ => h (.ref Dn) G' H' A' [Dn] s' I' (by subst e eo; exact .lst ho ia) R') fun _ _ _ _ h => h)
theorem SE.lc (hc : X.calm = true) (hN : X.N.Nodup) (ok : BlkOk X.N X.env.scope scope own) (nd : (own.map (·.2)).Nodup) (hs : ∀ x, foldedSetIterable iter X.env x = pure x) (hi : SI X W tg iter it)
    (hg : ∀ s H C cl fp, SGw (Bk X s H scope C cl fp) (own.map (·.2)) tg g) (ht : ∀ s H C cl fp, STs (Bk X s H scope C cl fp) W0 ifs t) (he : ∀ s H C cl fp, SE (Bk X s H scope C cl fp) W0 elt d) :
    SE X W (.ListComp elt [⟨tg, iter, ifs, 0⟩] scope pos) (dLc it (own.map (·.2)) (turnD (own.map (·.2)) g t d)) := fun F ps σ G H A Q env I R P =>
  PE.go (pe_lc hc hN pi_run ok (fun s H C cl fp => ⟨fun pins s' σ H' v u Q J r h => (h s H C cl fp).r pins s' u J r⟩) (fun s H C cl fp => ⟨fun pins s' σ H' Q J h => (h s H C cl fp).r pins s' J⟩) (fun s H C cl fp => ⟨fun pins s' σ H' Q J h => (h s H C cl fp).r pins s' J⟩) hs) (lc_run hg ht he hi nd I R P)
/-- name = [..] on one line -/
theorem SS.setLc {x : Str} {i : Nat} {py spos : Pos} (hc : X.calm = true) (hN : X.N.Nodup) (hy : X.N[i]? = some x) (hyl : X.env.scope.names.lookup x = some .local) (hsw : swapsWith (.ListComp elt [⟨tg, iter, ifs, 0⟩] scope pos) (some (.Name x py)) spos.line X.env = pure true) (ok : BlkOk X.N X.env.scope scope own) (nd : (own.map (·.2)).Nodup) (hs : ∀ x, foldedSetIterable iter X.env x = pure x) (hi : SI X W tg iter it)
    (hg : ∀ s H C cl fp, SGw (Bk X s H scope C cl fp) (own.map (·.2)) tg g) (ht : ∀ s H C cl fp, STs (Bk X s H scope C cl fp) W0 ifs t) (he : ∀ s H C cl fp, SE (Bk X s H scope C cl fp) W0 elt d) :
    SS X W (.Assign [.Name x py] (.ListComp elt [⟨tg, iter, ifs, 0⟩] scope pos) spos) (dSet i (dLc it (own.map (·.2)) (turnD (own.map (·.2)) g t d))) := fun F ps σ G H A D env I R P => by
  refine PS.go (ps_setLc hc hN hy hyl hsw pi_run ok (fun s H C cl fp => ⟨fun pins s' σ H' v u Q J r h => (h s H C cl fp).r pins s' u J r⟩) (fun s H C cl fp => ⟨fun pins s' σ H' Q J h => (h s H C cl fp).r pins s' J⟩) (fun s H C cl fp => ⟨fun pins s' σ H' Q J h => (h s H C cl fp).r pins s' J⟩) hs) (lc_run hg ht he hi nd I R ?_)
  unfold dSet at P
  cases q : dLc it (own.map (·.2)) (turnD (own.map (·.2)) g t d) env with
  | stuck => rw [q] at P; exact P.elim
  | exc c fs env1 => rw [q] at P; exact P
  | ok u env1 =>
    rw [q] at P
    intro v G1 H1 A1 B s1 I1 i1 R1
    have P : (nxO (putS i u env1)).post (okS X F ps D G) (exP X W F ps G) := P
    cases q2 : putS i u env1 with
    | none => rw [q2] at P; exact P.elim
    | some env2 =>
      rw [q2] at P
      obtain ⟨A2, I2, R2⟩ := putS_run I1 R1 i1 q2
      exact P _ G1 H1 A2 s1 I2 R2
end
end Dn

namespace Dn
open PySem PySem.Spec PyProof.Rows L2
/-! ### [elt for tg in iter if .. for tg1 in iter1 if ..] -/
def turn2 (ws ws1 : List Nat) (g : D → Ev → Option Ev) (t : Ev → Rs Bool) (it1 : Ev → Rs (List D)) (tn1 : D → Ev → Rs (Option D)) (n : Nat) (x : D) (env : Ev) : Rs (List D) := match g x env with
  | none => .stuck
  | some env1 => (t env1).bind fun b env => if b = true then (it1 env).bind fun xs1 env => if n + xs1.length < 1000000 then (match clrO env ws1 with
      | some e => (compL tn1 xs1 e).bind fun ys env => clrR ys ws env
      | none => .stuck) else .stuck
    else clrR [] ws env
def comp2 (tn2 : Nat → D → Ev → Rs (List D)) : Nat → List D → Ev → Rs (List D)
  | _, [], env => .ok [] env
  | n, x :: xs, env => (noX (tn2 n x env)).bind fun ys env => (comp2 tn2 (n + ys.length) xs env).bind fun zs env => .ok (ys ++ zs) env
def dLc2 (it : Ev → Rs (List D)) (ws : List Nat) (tn2 : Nat → D → Ev → Rs (List D)) : DE := fun env => (it env).bind fun xs env => if okW env ws = true then (match clrO env ws with
  | some env1 => (comp2 tn2 0 xs env1).bind fun ys env2 => .ok (.lst ys) (rstO env ws env2)
  | none => .stuck) else .stuck
theorem wipe_sub {σ : L2.St} {ws ws1 : List Nat} (h : ∀ i ∈ ws1, i ∈ ws) : wipe (wipe σ ws1) ws = wipe σ ws := by
  apply List.ext_getElem?
  intro j
  by_cases hj : j ∈ ws
  · by_cases hl : j < σ.length
    · rw [wipe_get hj hl, wipe_get hj (by rw [wipe_length]; exact hl)]
    · rw [List.getElem?_eq_none (by rw [wipe_length, wipe_length]; omega), List.getElem?_eq_none (by rw [wipe_length]; omega)]
  · rw [wipe_out hj, wipe_out (fun z => hj (h j z)), wipe_out hj]
section
variable {X : Cx} {W : WX} {F : Fm} {ps : List V} {σ : L2.St} {G H : Hp} {A : List Addr} {env : Ev} {elt tg iter tg1 iter1 : Expr} {ifs ifs1 : List Expr} {scope : Scope} {own : List (Str × Nat)} {ws1 : List Nat} {pos : Pos} {it it1 : Ev → Rs (List D)} {g g1 : D → Ev → Option Ev} {t t1 : Ev → Rs Bool} {d : DE}
theorem lc2_run (hg : ∀ s H C cl fp, SGw (Bk X s H scope C cl fp) (own.map (·.2)) tg g) (ht : ∀ s H C cl fp, STs (Bk X s H scope C cl fp) W0 ifs t) (hi1 : ∀ s H C cl fp, SI (Bk X s H scope C cl fp) W0 tg1 iter1 it1)
    (hg1 : ∀ s H C cl fp, SGw (Bk X s H scope C cl fp) ws1 tg1 g1) (ht1 : ∀ s H C cl fp, STs (Bk X s H scope C cl fp) W0 ifs1 t1) (he : ∀ s H C cl fp, SE (Bk X s H scope C cl fp) W0 elt d) (hi : SI X W tg iter it) (nd : (own.map (·.2)).Nodup) (hv : ∀ i ∈ ws1, i ∈ own.map (·.2))
    {Q : VK} (I : EvIs X.K G H ps σ env A) (R : Rel F G H A) (P : (dLc2 it (own.map (·.2)) (turn2 (own.map (·.2)) ws1 g t it1 (turnD ws1 g1 t1 d)) env).post (okE X F ps σ G Q) (exP X W F ps G)) :
    tLc2 (RunIter X tg iter) (gAll X scope tg) (tAll X scope ifs) (iAll X scope tg1 iter1) (gAll X scope tg1) (tAll X scope ifs1) (eAll X scope elt) (own.map (·.2)) ws1 σ H Q := by
  generalize hws : own.map (·.2) = ws at *
  refine hi F ps σ G H A _ env I R ?_
  obtain ⟨tn, htn⟩ : ∃ tn, tn = turn2 ws ws1 g t it1 (turnD ws1 g1 t1 d) := ⟨_, rfl⟩
  rw [← htn] at P
  unfold dLc2 at P
  cases q0 : it env with
  | stuck => rw [q0] at P; exact P.elim
  | exc c fs env1 => rw [q0] at P; exact P
  | ok xs env1 =>
    rw [q0] at P
    have P : (if okW env1 ws = true then (match clrO env1 ws with
      | some env2 => (comp2 tn 0 xs env2).bind fun ys env3 => Rs.ok (T.lst ys) (rstO env1 ws env3)
      | none => .stuck) else .stuck).post (okE X F ps σ G Q) (exP X W F ps G) := P
    by_cases hz : okW env1 ws = true
    · rw [if_pos hz] at P
      cases q1 : clrO env1 ws with
      | none => rw [q1] at P; exact P.elim
      | some env2 =>
        rw [q1] at P
        have P : ((comp2 tn 0 xs env2).bind fun ys env3 => Rs.ok (T.lst ys) (rstO env1 ws env3)).post (okE X F ps σ G Q) (exP X W F ps G) := P
        intro J G1 H1 A1 s1 I1 R1 w Dn hD
        have hflat : ∀ v ∈ ws, flatS (getS env1 v) = true := fun v hv => List.all_eq_true.mp hz v hv
        obtain ⟨A2, I2, sl2⟩ := I1.clr q1
        have R2 : Rel F G1 (upd H1 Dn (.lst [])) (A2 ++ [Dn]) := by
          have r := (R1.sub (fun a ha => sl2.subset ha) (sl2.nodup R1.nd)).mine (o := .lst []) hD
          exact r.perm (by show (Dn :: A2).Perm _; exact (List.perm_append_singleton Dn A2).symm)
        have nD : ∀ a ∈ A2, a ≠ Dn := fun a ha => R1.ne hD a (sl2.subset ha)
        let Inv1 : Nat → Hp → Prop := fun i H => ∃ G2 A2 env2 acc zs, Same G1 G2 ∧ EvIs X.K G2 H ps (wipe σ ws) env2 A2 ∧ (∀ v ∈ ws, getS env2 v = .none) ∧ Rel F G2 H (A2 ++ [Dn]) ∧ H Dn = some (.lst acc) ∧ IsL X.K G2 acc zs ∧
          (comp2 tn zs.length (xs.drop i) env2).post (fun ys env' => okE X F ps σ G Q (.lst (zs ++ ys)) (rstO env1 ws env')) (exP X W F ps G)
        refine ⟨fun i m H => m = xs.length - i ∧ i ≤ xs.length ∧ Inv1 i H, ⟨xs.length, by simp, Nat.zero_le _, G1, A2, env2, [], [], Same.refl G1, I2.up (Same.refl G1) (upd_off nD), clr_none (env' := env2) q1, R2, upd_same, .nil, by rw [List.drop_zero]; exact post_bind P⟩, ?_⟩
        rintro i m H2 ⟨rfl, hi2, G2, A3, env3, acc3, zs, s2, I3, hn3, R3, hacc3, iacc3, P2⟩
        by_cases hl : i < xs.length
        · refine .inr ⟨w.go F i G2 H2 _ hl R3 s2, Inv1 (i + 1), fun H' z => ⟨xs.length - (i + 1), by omega, rfl, hl, z⟩, fun v H3 y => ?_⟩
          obtain ⟨G3, s3, R4, k3, i3⟩ := w.yl F i _ v G2 H2 H3 _ (List.getElem?_eq_getElem hl) R3 s2 y
          have I4 : EvIs X.K G3 H3 ps (wipe σ ws) env3 A3 := I3.up s3 fun a ha => k3 a (List.mem_append_left _ ha)
          have hacc4 : H3 Dn = some (.lst acc3) := by rw [k3 Dn (List.mem_append_right _ List.mem_cons_self)]; exact hacc3
          have e : xs.drop i = xs[i] :: xs.drop (i + 1) := List.drop_eq_getElem_cons hl
          rw [e] at P2
          unfold comp2 at P2
          have P3 := noX_post (ex' := fun _ _ _ => False) P2
          have e3 : tn zs.length xs[i] env3 = (match g xs[i] env3 with
            | none => .stuck
            | some env1 => (t env1).bind fun b env => if b = true then (it1 env).bind fun xs1 env => if zs.length + xs1.length < 1000000 then (match clrO env ws1 with
                | some e => (compL (turnD ws1 g1 t1 d) xs1 e).bind fun ys env => clrR ys ws env
                | none => .stuck) else .stuck
              else clrR [] ws env) := by rw [htn]; rfl
          rw [e3] at P3
          have fin : ∀ {G6 H6 : Hp} {A6 : List Addr} {env6 : Ev} {σ4 : L2.St} {o : List D} {acc6 : List V}, Same G3 G6 → wipe σ4 ws = wipe σ ws → EvIs X.K G6 H6 ps σ4 env6 A6 → Rel F G6 H6 (A6 ++ [Dn]) → H6 Dn = some (.lst acc6) → IsL X.K G6 acc6 (zs ++ o) → 
              (clrR o ws env6).post (fun a e => ((comp2 tn (zs.length + a.length) (xs.drop (i + 1)) e).bind fun ys env => .ok (a ++ ys) env).post (fun ys env' => okE X F ps σ G Q (.lst (zs ++ ys)) (rstO env1 ws env')) (exP X W F ps G)) (fun _ _ _ => False) → Inv1 (i + 1) H6 := by
            intro G6 H6 A6 env6 σ4 o acc6 s6 hw I6 R6 ha6 ia6 P6
            unfold clrR at P6
            cases q3 : clrO env6 ws with
            | none => rw [q3] at P6; exact P6.elim
            | some env7 =>
              rw [q3] at P6
              obtain ⟨A7, I9, sl7⟩ := I6.clr q3
              rw [hw] at I9
              have r9 : Rel F G6 H6 (A7 ++ [Dn]) := R6.sub (fun a ha => (List.Sublist.append_right sl7 _).subset ha) ((List.Sublist.append_right sl7 _).nodup R6.nd)
              refine ⟨G6, A7, env7, acc6, zs ++ o, s2.trans (s3.trans s6), I9, clr_none (env' := env7) q3, r9, ha6, ia6, ?_⟩
              have P7 : ((comp2 tn (zs.length + o.length) (xs.drop (i + 1)) env7).bind fun ys env => Rs.ok (o ++ ys) env).post (fun ys env' => okE X F ps σ G Q (.lst (zs ++ ys)) (rstO env1 ws env')) (exP X W F ps G) := P6
              rw [List.length_append]
              refine (post_bind P7).imp (fun ys env' _ z => ?_) fun _ _ _ _ h => h
              have z : okE X F ps σ G Q (.lst (zs ++ (o ++ ys))) (rstO env1 ws env') := z
              rw [← List.append_assoc zs] at z
              exact z
          cases q2 : g xs[i] env3 with
          | none => rw [q2] at P3; exact P3.elim
          | some env4 =>
            rw [q2] at P3
            dsimp only at P3
            intro sB HB CB clB fpB
            refine hg sB HB CB clB fpB ⟨G3, H3, fun a => a ∈ A3⟩ ps (wipe σ ws) G3 H3 A3 v _ env3 env4 _ I4 (R4.start (fun b hb => List.mem_append_left _ hb) R4.left.nd) i3 q2 fun σ4 A4 I5 R5 hw4 => ⟨hw4.trans wipe_wipe, ?_⟩
            rw [wipe_wipe] at hw4
            intro sC HC CC clC fpC
            refine (ht sC HC CC clC fpC).seq (ok := fun a e => ((comp2 tn (zs.length + a.length) (xs.drop (i + 1)) e).bind fun ys env => .ok (a ++ ys) env).post (fun ys env' => okE X F ps σ G Q (.lst (zs ++ ys)) (rstO env1 ws env')) (exP X W F ps G)) I5 R5 (P3.imp (fun _ _ _ h => h) fun _ _ _ _ h => h.elim) fun b env5 G5 H5 A5 s5 I6 R6 P4 => ?_
            cases b with
            | true =>
              show iAll X scope tg1 iter1 σ4 H5 _
              intro sD HD CD clD fpD
              refine hi1 sD HD CD clD fpD ⟨G3, H3, fun a => a ∈ A3⟩ ps σ4 G5 H5 A5 _ env5 I6 R6 ?_
              have P4 := post_bind P4
              refine P4.imp (fun xs1 env6 _ P5 => ?_) fun _ _ _ _ h => h
              intro J1 G6 H6 A6 s6 I7 R7 w1
              by_cases hz1 : zs.length + xs1.length < 1000000
              · rw [if_pos hz1] at P5
                cases q4 : clrO env6 ws1 with
                | none => rw [q4] at P5; exact P5.elim
                | some env7 =>
                  rw [q4] at P5
                  have P5 := post_bind P5
                  obtain ⟨r8, s8, k8⟩ := Rel.back (B := A3) (A := [Dn]) R4 R7
                  have hacc6 : H6 Dn = some (.lst acc3) := by rw [k8 Dn List.mem_cons_self]; exact hacc4
                  obtain ⟨A7, I8, sl7⟩ := I7.clr q4
                  have r9 : Rel F G6 H6 (A7 ++ [Dn]) := r8.sub (fun a ha => (List.Sublist.append_right sl7 _).subset ha) ((List.Sublist.append_right sl7 _).nodup r8.nd)
                  have ia6 := iacc3.up (s3.trans s8)
                  refine loop_run (N := 1000000) (ads := zs) acL_up (emits_lst he Dn) hg1 ht1 w1 I8 (clr_none (env' := env7) q4) r9 hacc6 ⟨acc3, rfl, ia6⟩ hz1 (P5.imp (fun ys env8 _ P6 => ?_) fun _ _ _ _ h => h)
                  rintro G9 H9 A9 o9 s9 I9 hn9 R9 ha9 ⟨acc9, rfl, ia9⟩
                  refine fin (o := ys) (s8.trans s9) ((wipe_sub hv).trans hw4) I9 R9 ha9 ia9 (P6.imp (fun _ _ _ h => h) fun c fs e' q _ => ?_)
                  unfold clrR at q
                  cases q5 : clrO env8 ws with
                  | none => rw [q5] at q; cases q
                  | some _ => rw [q5] at q; cases q
              · rw [if_neg hz1] at P5; exact P5.elim
            | false =>
              obtain ⟨r8, s8, k8⟩ := Rel.back (B := A3) (A := [Dn]) R4 R6
              have hacc6 : H5 Dn = some (.lst acc3) := by rw [k8 Dn List.mem_cons_self]; exact hacc4
              have P4 : (clrR ([] : List D) ws env5).post _ _ := P4
              refine fin (o := []) s8 hw4 I6 r8 hacc6 (by simpa using iacc3.up (s3.trans s8)) (P4.imp (fun _ _ _ h => h) fun c fs e' q _ => ?_)
              unfold clrR at q
              cases q3 : clrO env5 ws with
              | none => rw [q3] at q; cases q
              | some _ => rw [q3] at q; cases q
        · have e : i = xs.length := by omega
          subst e
          rw [List.drop_length] at P2
          have P2 : okE X F ps σ G Q (.lst (zs ++ [])) (rstO env1 ws env3) := P2
          rw [List.append_nil] at P2
          exact .inl ⟨w.st F G2 H2 _ R3 s2, P2 (.ref Dn) G2 H2 A3 [Dn] (s1.trans s2) (EvIs.rst I1 s2 nd hflat hn3 I3) (.lst hacc3 iacc3) (R3.perm List.perm_append_comm)⟩
    · rw [if_neg hz] at P; exact P.elim
theorem SE.lc2 (hc : X.calm = true) (hN : X.N.Nodup) (ok : BlkOk X.N X.env.scope scope own) (nd : (own.map (·.2)).Nodup) (hv : ∀ i ∈ ws1, i ∈ own.map (·.2)) (hs : ∀ x, foldedSetIterable iter X.env x = pure x) (hs1 : ∀ env x, foldedSetIterable iter1 env x = pure x) (hi : SI X W tg iter it)
    (hg : ∀ s H C cl fp, SGw (Bk X s H scope C cl fp) (own.map (·.2)) tg g) (ht : ∀ s H C cl fp, STs (Bk X s H scope C cl fp) W0 ifs t) (hi1 : ∀ s H C cl fp, SI (Bk X s H scope C cl fp) W0 tg1 iter1 it1)
    (hg1 : ∀ s H C cl fp, SGw (Bk X s H scope C cl fp) ws1 tg1 g1) (ht1 : ∀ s H C cl fp, STs (Bk X s H scope C cl fp) W0 ifs1 t1) (he : ∀ s H C cl fp, SE (Bk X s H scope C cl fp) W0 elt d) :
    SE X W (.ListComp elt [⟨tg, iter, ifs, 0⟩, ⟨tg1, iter1, ifs1, 0⟩] scope pos) (dLc2 it (own.map (·.2)) (turn2 (own.map (·.2)) ws1 g t it1 (turnD ws1 g1 t1 d))) := fun F ps σ G H A Q env I R P =>
  PE.go (pe_lc2 hc hN pi_run ok hv (fun s H C cl fp => ⟨fun pins s' σ H' v u Q J r h => (h s H C cl fp).r pins s' u J r⟩) (fun s H C cl fp => ⟨fun pins s' σ H' Q J h => (h s H C cl fp).r pins s' J⟩) (fun s H C cl fp => ⟨fun pins s' σ H' Q J h => (h s H C cl fp).r pins s' J⟩)
    (fun s H C cl fp => ⟨fun pins s' σ H' v u Q J r h => (h s H C cl fp).r pins s' u J r⟩) (fun s H C cl fp => ⟨fun pins s' σ H' Q J h => (h s H C cl fp).r pins s' J⟩) (fun s H C cl fp => ⟨fun pins s' σ H' Q J h => (h s H C cl fp).r pins s' J⟩) hs hs1) (lc2_run hg ht hi1 hg1 ht1 he hi nd hv I R P)
theorem SS.setLc2 {x : Str} {i : Nat} {py spos : Pos} (hc : X.calm = true) (hN : X.N.Nodup) (hy : X.N[i]? = some x) (hyl : X.env.scope.names.lookup x = some .local) (hsw : swapsWith (.ListComp elt [⟨tg, iter, ifs, 0⟩, ⟨tg1, iter1, ifs1, 0⟩] scope pos) (some (.Name x py)) spos.line X.env = pure true) (ok : BlkOk X.N X.env.scope scope own) (nd : (own.map (·.2)).Nodup) (hv : ∀ i ∈ ws1, i ∈ own.map (·.2)) (hs : ∀ x, foldedSetIterable iter X.env x = pure x) (hs1 : ∀ env x, foldedSetIterable iter1 env x = pure x) (hi : SI X W tg iter it)
    (hg : ∀ s H C cl fp, SGw (Bk X s H scope C cl fp) (own.map (·.2)) tg g) (ht : ∀ s H C cl fp, STs (Bk X s H scope C cl fp) W0 ifs t) (hi1 : ∀ s H C cl fp, SI (Bk X s H scope C cl fp) W0 tg1 iter1 it1)
    (hg1 : ∀ s H C cl fp, SGw (Bk X s H scope C cl fp) ws1 tg1 g1) (ht1 : ∀ s H C cl fp, STs (Bk X s H scope C cl fp) W0 ifs1 t1) (he : ∀ s H C cl fp, SE (Bk X s H scope C cl fp) W0 elt d) :
    SS X W (.Assign [.Name x py] (.ListComp elt [⟨tg, iter, ifs, 0⟩, ⟨tg1, iter1, ifs1, 0⟩] scope pos) spos) (dSet i (dLc2 it (own.map (·.2)) (turn2 (own.map (·.2)) ws1 g t it1 (turnD ws1 g1 t1 d)))) := fun F ps σ G H A D env I R P => by
  refine PS.go (ps_setLc2 hc hN hy hyl hsw pi_run ok hv (fun s H C cl fp => ⟨fun pins s' σ H' v u Q J r h => (h s H C cl fp).r pins s' u J r⟩) (fun s H C cl fp => ⟨fun pins s' σ H' Q J h => (h s H C cl fp).r pins s' J⟩) (fun s H C cl fp => ⟨fun pins s' σ H' Q J h => (h s H C cl fp).r pins s' J⟩)
    (fun s H C cl fp => ⟨fun pins s' σ H' v u Q J r h => (h s H C cl fp).r pins s' u J r⟩) (fun s H C cl fp => ⟨fun pins s' σ H' Q J h => (h s H C cl fp).r pins s' J⟩) (fun s H C cl fp => ⟨fun pins s' σ H' Q J h => (h s H C cl fp).r pins s' J⟩) hs hs1) (lc2_run hg ht hi1 hg1 ht1 he hi nd hv I R ?_)
  unfold dSet at P
  cases q : dLc2 it (own.map (·.2)) (turn2 (own.map (·.2)) ws1 g t it1 (turnD ws1 g1 t1 d)) env with
  | stuck => rw [q] at P; exact P.elim
  | exc c fs env1 => rw [q] at P; exact P
  | ok u env1 =>
    rw [q] at P
    intro v G1 H1 A1 B s1 I1 i1 R1
    have P : (nxO (putS i u env1)).post (okS X F ps D G) (exP X W F ps G) := P
    cases q2 : putS i u env1 with
    | none => rw [q2] at P; exact P.elim
    | some env2 =>
      rw [q2] at P
      obtain ⟨A2, I2, R2⟩ := putS_run I1 R1 i1 q2
      exact P _ G1 H1 A2 s1 I2 R2
end
end Dn

namespace Dn
open PySem PySem.Spec PyProof.Rows L2
section
variable {X : Cx} {W : WX} {F : Fm} {ps : List V} {σ : L2.St} {G H : Hp} {A : List Addr} {env : Ev} {e e2 elt tg iter kx vx : Expr} {es : List Expr} {ifs : List Expr} {scope : Scope} {own : List (Str × Nat)} {pos p : Pos} {it : Ev → Rs (List D)} {g : D → Ev → Option Ev} {t : Ev → Rs Bool} {d dk dv : DE} {C f : Str}
/-! ### a field of data -/
def fldDD (C f : Str) : D → Option D
  | .inst C' ns ds => if C' = C then fldL ns ds f else none
  | _ => none
def dFldD (C f : Str) (d : DE) : DE := fun env => (d env).bindD fun x env => ofD (fldDD C f x) env
theorem SE.fld (cl : Cls X.K (He.ga X.K C)) (na : NoAttr X.K (He.ga X.K C) f) (hb : attributeBase e f X.env (eval e X.env) = eval e X.env) (h : SE X W e d) : SE X W (.Attribute e f pos) (dFldD C f d) := fun F ps σ G H A Q env I R P =>
  PE.go (pe_fld pe_run hb) (h.seqD I R P fun x env1 v G1 H1 A1 s1 I1 i1 R1 P1 => by
    cases x with
    | inst C' ns ds =>
      have P2 : (ofD (if C' = C then fldL ns ds f else none) env1).post (okE X F ps σ G Q) (exP X W F ps G1) := P1
      clear P1
      by_cases hz : C' = C
      · rw [if_pos hz] at P2
        subst hz
        obtain ⟨a, dx, fs, rfl, ha, hn, r⟩ := i1.instE
        subst hn
        cases q : fldL (fs.map (·.1)) ds f with
        | none => rw [q] at P2; exact P2.elim
        | some u =>
          rw [q] at P2
          obtain ⟨w, hw, iw⟩ := IsL.fld r q
          exact ⟨a, _, dx, fs, w, rfl, R1.gh _ _ ha, cl, na, hw, P2 w G1 H1 A1 [] s1 I1 (.d iw) R1⟩
      · rw [if_neg hz] at P2; exact P2.elim
    | _ => exact P1.elim)
/-! ### *e in a display, in arguments -/
def starD : D → Option (List D)
  | .list ds => some ds
  | .tup ds => some ds
  | _ => none
def dStar (d1 : DE) (ds : Ev → Rs (List D)) : Ev → Rs (List D) := fun env => (d1 env).bindD fun x env => match starD x with
  | some xs => (ds env).bind fun ys env => .ok (xs ++ ys) env
  | none => .stuck
theorem SA.star {ds : Ev → Rs (List D)} (hs : starEach (.Starred e p :: es) X.env = (true, eval e X.env) :: starEach es X.env) (h : SE X W e d) (t : SA X W es ds) : SA X W (.Starred e p :: es) (dStar d ds) := fun F ps σ G H A Q env I R P =>
  PA.go (StX.pa_star pe_run pa_run hs) (h.seqD I R P fun x env1 v G1 H1 A1 s1 I1 i1 R1 P1 => by
    cases x with
    | list xs =>
      obtain ⟨a, vs, rfl, ha, r⟩ := i1.listE
      exact ⟨a, vs, rfl, .inr (SqL.of (R1.gh _ _ ha)), t.seq I1 R1 P1 fun ys env2 us G2 H2 A2 s2 I2 i2 R2 P2 => P2 (vs ++ us) G2 H2 A2 (s1.trans s2) I2 ((r.up s2).app i2) R2⟩
    | tup xs =>
      obtain ⟨a, vs, rfl, ha, r⟩ := i1.tupE
      exact ⟨a, vs, rfl, .inl (SqT.of (R1.gh _ _ ha)), t.seq I1 R1 P1 fun ys env2 us G2 H2 A2 s2 I2 i2 R2 P2 => P2 (vs ++ us) G2 H2 A2 (s1.trans s2) I2 ((r.up s2).app i2) R2⟩
    | _ => exact P1.elim)
/-! ### new dicts -/
def dNewK : DE := fun env => .ok (.dict [] []) env
def dNewT : DE := fun env => .ok (.dictT [] []) env
theorem SE.dnewK : SE X W (.Dict [] [] pos) dNewK := fun F ps σ G H A Q env I R P => PE.go pe_dnewK fun q hq => P (.ref q) G _ A [q] (Same.refl G) (I.up (Same.refl G) (upd_off (R.ne hq))) (.dict upd_same rfl .nil) (R.mine hq)
theorem SE.dnewT : SE X W (.Dict [] [] pos) dNewT := fun F ps σ G H A Q env I R P => PE.go pe_dnewT fun q hq => P (.ref q) G _ A [q] (Same.refl G) (I.up (Same.refl G) (upd_off (R.ne hq))) (.dictT upd_same rfl .nil) (R.mine hq)
/-- keys and values put in one by one -/
def putAll : List Key → List D → List (Key × D) → List Key × List D
  | ks, ds, [] => (ks, ds)
  | ks, ds, (k, x) :: r => putAll (putKs ks k) (putDs ks ds k x) r
inductive SPs (X : Cx) (W : WX) : List (Option Expr) → List Expr → List (DE × DE) → Prop
  | nil : SPs X W [] [] []
  | cons {k v : Expr} {ks : List (Option Expr)} {vs : List Expr} {dk dv : DE} {r : List (DE × DE)} (h1 : SE X W k dk) (h2 : SE X W v dv) (t : SPs X W ks vs r) : SPs X W (some k :: ks) (v :: vs) ((dk, dv) :: r)
def trO (X : Cx) : List (Option Expr) → List Expr → List (TE × TE)
  | some k :: ks, v :: vs => (RunE X k, RunE X v) :: trO X ks vs
  | _, _ => []
theorem SPs.pps {keys : List (Option Expr)} {vals : List Expr} {r : List (DE × DE)} (h : SPs X W keys vals r) : PPs X pos keys vals (trO X keys vals) := by
  induction h with
  | nil => exact pps_nil
  | cons h1 h2 t ih => exact pps_cons pe_run pe_run ih
def dPrs : List (DE × DE) → Ev → Rs (List (D × D))
  | [], env => .ok [] env
  | (dk, dv) :: r, env => (dk env).bindD fun x env => (dv env).bindD fun y env => (dPrs r env).bind fun zs env => .ok ((x, y) :: zs) env
def keyP : List (D × D) → Option (List (Key × D))
  | [] => some []
  | (x, y) :: r => (keyD x).bind fun k => (keyP r).map ((k, y) :: ·)
def dDisp (r : List (DE × DE)) : DE := fun env => (dPrs r env).bind fun zs env => match keyP zs with
  | some ks => .ok (let q := putAll [] [] ks; .dict q.1 q.2) env
  | none => .stuck
theorem prs_run {β : Type} {ok : β → Ev → Prop} {keys : List (Option Expr)} {vals : List Expr} {r : List (DE × DE)} (h : SPs X W keys vals r) : ∀ {F : Fm} {G H : Hp} {A : List Addr} {env : Ev} {f : List (D × D) → Ev → Rs β} {Q : List (V × V) → Hp → Prop}, EvIs X.K G H ps σ env A → Rel F G H A → ((dPrs r env).bind f).post ok (exP X W F ps G) →
    (∀ zs env' us G' H' A', Same G G' → EvIs X.K G' H' ps σ env' A' → IsL X.K G' (us.map (·.1)) (zs.map (·.1)) → IsL X.K G' (us.map (·.2)) (zs.map (·.2)) → Rel F G' H' A' → (f zs env').post ok (exP X W F ps G') → Q us H') → tPairs (trO X keys vals) σ H Q := by
  induction h with
  | nil => intro F G H A env f Q I R P k; exact k [] env [] G H A (Same.refl G) I .nil .nil R P
  | @cons k v ks vs dk dv r h1 h2 t ih =>
    intro F G H A env f Q I R P kk
    have P : ((dk env).bindD fun x env => (dv env).bindD fun y env => (dPrs r env).bind fun zs env => f ((x, y) :: zs) env).post ok (exP X W F ps G) := by
      have e : ((dPrs ((dk, dv) :: r) env).bind f) = ((dk env).bindD fun x env => (dv env).bindD fun y env => (dPrs r env).bind fun zs env => f ((x, y) :: zs) env) := by
        show (((dk env).bindD fun x env => (dv env).bindD fun y env => (dPrs r env).bind fun zs env => Rs.ok ((x, y) :: zs) env).bind f) = _
        simp only [bindD_bind, bind_bind]
        rfl
      rw [← e]; exact P
    exact h1.seqD I R P fun x env1 v1 G1 H1 A1 s1 I1 i1 R1 P1 => h2.seqD I1 R1 P1 fun y env2 v2 G2 H2 A2 s2 I2 i2 R2 P2 => ih I2 R2 P2 fun zs env3 us G3 H3 A3 s3 I3 k3 w3 R3 P3 =>
      kk ((x, y) :: zs) env3 ((v1, v2) :: us) G3 H3 A3 ((s1.trans s2).trans s3) I3 (.cons ((i1.up s2).up s3) k3) (.cons (i2.up s3) w3) R3 P3
theorem keyP_is {K : PySem.W.Frag} : ∀ {zs : List (D × D)} {us : List (V × V)} {ks : List (Key × D)}, IsL K G (us.map (·.1)) (zs.map (·.1)) → IsL K G (us.map (·.2)) (zs.map (·.2)) → keyP zs = some ks → ∃ kvs : List (Key × V), us = kvs.map (fun kv => (kV kv.1, kv.2)) ∧ kvs.length = zs.length ∧ kvs.map (·.1) = ks.map (·.1) ∧ IsL K G (kvs.map (·.2)) (ks.map (·.2))
  | [], us, ks, h1, h2, e => by
    cases us with
    | nil => cases e; exact ⟨[], rfl, rfl, rfl, .nil⟩
    | cons _ _ => cases h1
  | (x, y) :: zs, [], ks, h1, h2, e => by cases h1
  | (x, y) :: zs, (v1, v2) :: us, ks, h1, h2, e => by
    cases h1 with
    | cons a1 t1 =>
      cases h2 with
      | cons a2 t2 =>
        obtain ⟨k, e1, e2⟩ := Option.bind_eq_some_iff.mp (show (keyD x).bind (fun k => (keyP zs).map ((k, y) :: ·)) = some ks from e)
        obtain ⟨ks', e3, rfl⟩ := Option.map_eq_some_iff.mp e2
        obtain ⟨kvs, q1, q2, q3, q4⟩ := keyP_is t1 t2 e3
        refine ⟨(k, v2) :: kvs, ?_, congrArg (· + 1) q2, congrArg (k :: ·) q3, .cons a2 q4⟩
        have e4 : v1 = kV k := keyD_vw (a1.vw (Same.refl G)) e1
        rw [q1, e4]; rfl
theorem putAll_is {K : PySem.W.Frag} : ∀ {kvs : List (Key × V)} {ks : List (Key × D)} {kv0 : List (Key × V)} {ds0 : List D}, kvs.map (·.1) = ks.map (·.1) → IsL K G (kvs.map (·.2)) (ks.map (·.2)) → IsL K G (kv0.map (·.2)) ds0 → (mergeK kv0 kvs).map (·.1) = (putAll (kv0.map (·.1)) ds0 ks).1 ∧ IsL K G ((mergeK kv0 kvs).map (·.2)) (putAll (kv0.map (·.1)) ds0 ks).2
  | [], [], kv0, ds0, _, _, h => ⟨rfl, h⟩
  | [], _ :: _, _, _, e, _, _ => by cases e
  | _ :: _, [], _, _, e, _, _ => by cases e
  | (k, v) :: kvs, (k', x) :: ks, kv0, ds0, e, r, h => by
    injection e with e1 e2
    have e1 : k = k' := e1
    subst e1
    cases r with
    | cons r1 r2 =>
      have h1 := putK_keys kv0 k v
      have h2 := putK_vals (k := k) r1 h
      have := putAll_is (kv0 := putK kv0 k v) e2 r2 h2
      rw [h1] at this
      exact this
theorem exP_back {F' : Fm} {B B0 : List Addr} (R : Rel F G H (B ++ B0)) {G1 : Hp} {c : XC} {fs : Fds} {env' : Ev} (h : exP X W F ps G1 c fs env') : exP X W ⟨G, H, fun a => a ∈ B⟩ ps G1 c fs env' := fun cls dx σ' G' H' A' s I' R' x =>
  h cls dx σ' G' H' A' s I' ((Rel.back (B := B) (A := B0) R R').1.left) x
theorem SE.disp {keys : List (Option Expr)} {vals : List Expr} {r : List (DE × DE)} (hall : keys.all (·.isSome) = true) (hl : keys.length = vals.length) (h0 : keys ≠ []) (h15 : keys.length ≤ 15) (hr : keys.length = r.length) (h : SPs X W keys vals r) : SE X W (.Dict keys vals pos) (dDisp r) := fun F ps σ G H A Q env I R P => by
  refine PE.go (pe_disp h.pps hall hl h0 h15) fun q hq => ?_
  have R1 : Rel F G (upd H q (.dK [])) (A ++ [q]) := (R.mine hq).perm (by show (q :: A).Perm _; exact (List.perm_append_singleton q A).symm)
  have I1 : EvIs X.K G (upd H q (.dK [])) ps σ env A := I.up (Same.refl G) (upd_off (R.ne hq))
  have R2 := R1.start (B := A) (fun b hb => List.mem_append_left _ hb) R1.left.nd
  have hlen : ∀ {r : List (DE × DE)} {env : Ev} {zs : List (D × D)} {e : Ev}, dPrs r env = .ok zs e → zs.length = r.length := by
    intro r
    induction r with
    | nil => intro env zs e q; cases q; rfl
    | cons p r ih =>
      intro env zs e q
      obtain ⟨dk, dv⟩ := p
      unfold dPrs at q
      cases q1 : dk env with
      | ok x e1 =>
        rw [q1] at q
        have q : ((dv e1).bindD fun y env => (dPrs r env).bind fun zs env => Rs.ok ((x.frz, y) :: zs) env) = .ok zs e := q
        cases q2 : dv e1 with
        | ok y e2 =>
          rw [q2] at q
          have q : ((dPrs r e2).bind fun zs env => Rs.ok ((x.frz, y.frz) :: zs) env) = .ok zs e := q
          cases q3 : dPrs r e2 with
          | ok zs' e3 => rw [q3] at q; cases q; exact congrArg (· + 1) (ih q3)
          | _ => rw [q3] at q; cases q
        | _ => rw [q2] at q; cases q
      | _ => rw [q1] at q; cases q
  have P2 : ((dPrs r env).bind fun zs env => if zs.length = r.length then (match keyP zs with
      | some ks => Rs.ok (let q := putAll [] [] ks; T.dict q.1 q.2) env
      | none => .stuck) else .stuck).post (okE X F ps σ G Q) (exP X W ⟨G, upd H q (.dK []), fun a => a ∈ A⟩ ps G) := by
    unfold dDisp at P
    cases q0 : dPrs r env with
    | ok zs e =>
      rw [q0] at P
      show (if zs.length = r.length then _ else _ : Rs T).post _ _
      rw [if_pos (hlen q0)]
      exact P.imp (fun _ _ _ h => h) fun c fs e' _ h => exP_back (F' := F) R1 h
    | exc c fs e => rw [q0] at P; exact exP_back (F' := F) R1 P
    | stuck => rw [q0] at P; exact P.elim
  refine prs_run h I1 R2 P2 fun zs env1 us G1 H1 A1 s1 I2 k1 w1 R3 P3 => ?_
  by_cases hz : zs.length = r.length
  · rw [if_pos hz] at P3
    cases q1 : keyP zs with
    | none => rw [q1] at P3; exact P3.elim
    | some ks =>
      rw [q1] at P3
      obtain ⟨kvs, q2, q3, q4, q5⟩ := keyP_is k1 w1 q1
      obtain ⟨r8, s8, k8⟩ := Rel.back (B := A) (A := [q]) R1 R3
      have hq1 : H1 q = some (.dK []) := by rw [k8 q List.mem_cons_self]; exact upd_same
      refine ⟨hq1, kvs, q2, by rw [q3, hz, ← hr]; exact h15, ?_⟩
      obtain ⟨z1, z2⟩ := putAll_is (kv0 := []) (ds0 := []) q4 q5 .nil
      have nD : ∀ a ∈ A1, a ≠ q := fun a ha e => r8.dj q List.mem_cons_self (e ▸ ha)
      have P3 : okE X F ps σ G Q (.dict (putAll [] [] ks).1 (putAll [] [] ks).2) env1 := P3
      exact P3 (.ref q) G1 _ A1 [q] s1 (I2.up (Same.refl G1) (upd_off nD)) (.dict upd_same z1 z2) ((r8.put (List.mem_append_right _ List.mem_cons_self)).perm List.perm_append_comm)
  · rw [if_neg hz] at P3; exact P3.elim
/-! ### {k: v for tg in iter if ..} -/
def emK (dk dv : DE) : Ev → Rs (Key × D) := fun env => (dk env).bindD fun x env => (dv env).bindD fun y env => match keyD x with
  | some k => .ok (k, y) env
  | none => .stuck
def dictOf (ads : List (Key × D)) : T := let q := putAll [] [] ads; .dict q.1 q.2
abbrev dDc (it : Ev → Rs (List D)) (ws : List Nat) (tn : D → Ev → Rs (Option (Key × D))) : DE := dComp 1000000 it ws tn dictOf
def AcK (K : PySem.W.Frag) (G : Hp) (ads : List (Key × D)) (o : HO) : Prop := ∃ kv, o = .dK kv ∧ kv.map (·.1) = (putAll [] [] ads).1 ∧ IsL K G (kv.map (·.2)) (putAll [] [] ads).2 ∧ kv.length ≤ ads.length
theorem acK_up {K : PySem.W.Frag} (G G' : Hp) (ads : List (Key × D)) (o : HO) (s : Same G G') : AcK K G ads o → AcK K G' ads o := fun ⟨kv, e, h1, h2, h3⟩ => ⟨kv, e, h1, h2.up s, h3⟩
theorem putAll_snoc : ∀ (ads : List (Key × D)) (ks : List Key) (ds : List D) (k : Key) (x : D), putAll ks ds (ads ++ [(k, x)]) = (putKs (putAll ks ds ads).1 k, putDs (putAll ks ds ads).1 (putAll ks ds ads).2 k x)
  | [], _, _, _, _ => rfl
  | (k', y) :: ads, ks, ds, k, x => putAll_snoc ads _ _ k x
theorem emits_dict (hk : ∀ s H C cl fp, SE (Bk X s H scope C cl fp) W0 kx dk) (hv : ∀ s H C cl fp, SE (Bk X s H scope C cl fp) W0 vx dv) (Dn : Addr) : Emits X Dn 1000000 (AcK X.K) (emK dk dv) fun σ2 H3 Nx => eAll X scope kx σ2 H3 fun y H4 => eAll X scope vx σ2 H4 fun z H5 => ∃ kvs k, y = kV k ∧ H5 Dn = some (.dK kvs) ∧ kvs.length < sizeLine ∧ Nx (upd H5 Dn (.dK (putK kvs k z))) := by
  intro F ps σ G H A env ads o Nx I R hl hP h0 ⟨kv, eo, a1, a2, a3⟩ P sD HD CD clD fpD
  subst eo
  refine (hk sD HD CD clD fpD).seqD I R (show ((dk env).bindD fun x env => (dv env).bindD fun y env => match keyD x with
    | some k => Rs.ok (k, y) env
    | none => .stuck).post _ _ from P) fun x env5 vx' G5 H5 A5 s5 I6 i6 R6 P5 => ?_
  intro sE HE CE clE fpE
  refine (hv sE HE CE clE fpE).seqD I6 R6 P5 fun z env6 vz G6 H6 A6 s6 I7 i7 R7 P6 => ?_
  cases q : keyD x with
  | none => rw [q] at P6; exact P6.elim
  | some k =>
    rw [q] at P6
    refine ⟨kv, k, keyD_vw (i6.vw (Same.refl G5)) q, R7.keep Dn _ hP h0, Nat.lt_of_lt_of_le (Nat.lt_of_le_of_lt a3 hl) (Nat.le_of_lt sqLine), ?_⟩
    refine P6 G6 H6 A6 _ (s5.trans s6) I7 R7 ⟨putK kv k vz, rfl, ?_, ?_, ?_⟩
    · rw [putAll_snoc, putK_keys, a1]
    · rw [putAll_snoc, ← a1]; exact putK_vals i7 (a2.up (s5.trans s6))
    · rw [List.length_append]
      exact Nat.le_trans (length_putK kv k vz) (Nat.succ_le_succ a3)
theorem dc_run (hg : ∀ s H C cl fp, SGw (Bk X s H scope C cl fp) (own.map (·.2)) tg g) (ht : ∀ s H C cl fp, STs (Bk X s H scope C cl fp) W0 ifs t) (hk : ∀ s H C cl fp, SE (Bk X s H scope C cl fp) W0 kx dk) (hv : ∀ s H C cl fp, SE (Bk X s H scope C cl fp) W0 vx dv) (hi : SI X W tg iter it) (nd : (own.map (·.2)).Nodup)
    {Q : VK} (I : EvIs X.K G H ps σ env A) (R : Rel F G H A) (P : (dDc it (own.map (·.2)) (turnE (own.map (·.2)) g t (emK dk dv)) env).post (okE X F ps σ G Q) (exP X W F ps G)) :
    tDc (RunIter X tg iter) (gAll X scope tg) (tAll X scope ifs) (eAll X scope kx) (eAll X scope vx) (own.map (·.2)) σ H Q :=
  comp_run (o0 := fun _ => .dK []) (f := dictOf) (Ac := fun _ => AcK X.K) (fun _ => acK_up) (fun _ _ => ⟨[], rfl, rfl, .nil, Nat.le_refl _⟩) (emits_dict hk hv) hg ht hi nd I R (P.imp (fun u env' _ h Dn G' H' A' o ads e s' I' R' ho ⟨kv, eo, a1, a2, a3⟩ => h (.ref Dn) G' H' A' [Dn] s' I' (by subst e eo; exact .dict ho a1 a2) R') fun _ _ _ _ h => h)
theorem SE.dc (hc : X.calm = true) (hN : X.N.Nodup) (ok : BlkOk X.N X.env.scope scope own) (nd : (own.map (·.2)).Nodup) (hs : ∀ x, foldedSetIterable iter X.env x = pure x) (hi : SI X W tg iter it)
    (hg : ∀ s H C cl fp, SGw (Bk X s H scope C cl fp) (own.map (·.2)) tg g) (ht : ∀ s H C cl fp, STs (Bk X s H scope C cl fp) W0 ifs t) (hk : ∀ s H C cl fp, SE (Bk X s H scope C cl fp) W0 kx dk) (hv : ∀ s H C cl fp, SE (Bk X s H scope C cl fp) W0 vx dv) :
    SE X W (.DictComp kx vx [⟨tg, iter, ifs, 0⟩] scope pos) (dDc it (own.map (·.2)) (turnE (own.map (·.2)) g t (emK dk dv))) := fun F ps σ G H A Q env I R P =>
  PE.go (pe_dc hc hN pi_run ok (fun s H C cl fp => ⟨fun pins s' σ H' v u Q J r h => (h s H C cl fp).r pins s' u J r⟩) (fun s H C cl fp => ⟨fun pins s' σ H' Q J h => (h s H C cl fp).r pins s' J⟩) (fun s H C cl fp => ⟨fun pins s' σ H' Q J h => (h s H C cl fp).r pins s' J⟩) (fun s H C cl fp => ⟨fun pins s' σ H' Q J h => (h s H C cl fp).r pins s' J⟩) hs) (dc_run hg ht hk hv hi nd I R P)
end
end Dn

namespace Dn
open PySem PySem.Spec PyProof.Rows L2
/-- name = {..} on one line, the name a local -/
theorem ps_setDc {X : Cx} {i : Nat} {y : Str} {py : Pos} {kx vx tg iter : Expr} {ifs : List Expr} {scope : Scope} {own : List (Str × Nat)} {pos spos : Pos} {wi : TI} {g : TG} {tt : L2.TT} {tk tv : TE} (hc : X.calm = true) (hN : X.N.Nodup) (hy : X.N[i]? = some y) (hyl : X.env.scope.names.lookup y = some .local)
    (hsw : swapsWith (.DictComp kx vx [⟨tg, iter, ifs, 0⟩] scope pos) (some (.Name y py)) spos.line X.env = pure true) (hi : PI X tg iter wi) (ok : BlkOk X.N X.env.scope scope own)
    (hg : ∀ (s : Shared) (H : Hp) (C : Addr) (cl : List (Str × Addr)) (fp : List Addr), PG (X.blk s H scope (compEnvC scope cl C X.env) fp) tg g) (ht : ∀ (s : Shared) (H : Hp) (C : Addr) (cl : List (Str × Addr)) (fp : List Addr), PTs (X.blk s H scope (compEnvC scope cl C X.env) fp) ifs tt)
    (hk : ∀ (s : Shared) (H : Hp) (C : Addr) (cl : List (Str × Addr)) (fp : List Addr), PE (X.blk s H scope (compEnvC scope cl C X.env) fp) kx tk) (he : ∀ (s : Shared) (H : Hp) (C : Addr) (cl : List (Str × Addr)) (fp : List Addr), PE (X.blk s H scope (compEnvC scope cl C X.env) fp) vx tv) (hs : ∀ x, foldedSetIterable iter X.env x = pure x) :
    PS X (.Assign [.Name y py] (.DictComp kx vx [⟨tg, iter, ifs, 0⟩] scope pos) spos) (tAsg (tDc wi g tt tk tv (own.map (·.2))) (gName i)) := by
  refine ⟨fun pins s σ H D I h => ?_⟩
  rw [exec_Assign_Name_used _ _ _ _ hsw]
  refine wpAny_bind (wpAny_standAt (wpAny_bind ?_))
  show wpAny _ X.A (do let _ ← comprehension (.DictComp kx vx [⟨tg, iter, ifs, 0⟩] scope pos) scope X.env (firstIterPos [⟨tg, iter, ifs, 0⟩] pos) newDict false (eval iter X.env) (some (assign (.Name y py) X.env))) _ _ s
  have h : tDc wi g tt tk tv (own.map (·.2)) σ H (fun x H1 => gName i x σ H1 D.nx) := h
  refine wpAny_bind (thn (dc_core (Qf := fun _ s' => SP X pins D .next s') hc hN I hi ok hg ht hk he hs h fun L C s' m H' I' q hn f => ?_) fun _ s' hq => wpAny_pure (wpAny_pure hq))
  show wpAny _ _ (assign (.Name y py) X.env (.ref L)) _ _ _
  refine wpAny_assign_Name (store_ok2 (v := V.ref L) I' hN hy (.inl hyl) rfl (fun s2 I2 ⟨a, sb, ha⟩ => ?_) (.inr hyl))
  obtain ⟨f0, f1, f2, f3, f4, f5⟩ := f
  have haC : C ≠ a := by
    rcases ha with z | z
    · rw [z]; exact f1
    · exact fun e => f4 y a z e.symm
  refine ⟨m, hn.sameBut sb haC, fun h3 sb3 => ?_⟩
  exact ⟨_, H', I2.turned (t' := s2.toks) (fun b o hb e => (sb3.2 b hb).trans e) f0 f1 f3 f4 f5, q⟩
/-! ### sets of ints as tracked things -/
abbrev SiO (w : World) (a : Addr) (S : Int → Bool) (n : Nat) : HO := L2.SetO w a S n
section
variable {X : Cx} {w : World} {P : Program} {H : Hp} {h : Heap} {a : Addr} {S : Int → Bool} {n : Nat}
theorem siO_ok (R : SetR w h a S n) : ObjOk P w H h a (SiO w a S n) :=
  ⟨R, let ⟨o, _, _, _, ho, _⟩ := R; ⟨o, ho⟩, fun _ _ p k => SetR.at p k⟩
theorem siO_get {pins : List (Addr × Obj)} {σ : L2.St} {s : Shared} (I : Inv X pins σ H s) (ha : H a = some (SiO X.w a S n)) : SetR X.w s.heap a S n := (I.hok a _ ha).1
theorem siO_add {pins : List (Addr × Obj)} {σ : L2.St} {s : Shared} {E : Value → Shared → Prop} {y : Int} {t : Tok} {Q : Value → Shared → Prop} (I : Inv X pins σ H s) (hD : H a = some (SiO X.w a S n)) (room : n + 1 < scanBound)
    (k : ∀ s', Inv X pins σ (upd H a (SiO X.w a (fun j => S j || decide (j = y)) (if S y = true then n else n + 1))) s' → Q .none s') : wpAny (model X.prog X.w) X.A (call (.builtin "set.add") [.ref a, .int y t]) Q E s := by
  refine setR_add (siO_get I hD) room fun h' sb r => ?_
  have ex : ∃ u, h'.get? a = some u := let ⟨o, _, _, _, ho, _⟩ := r; ⟨o, ho⟩
  exact k _ (I.write (e := a) (t' := s.toks + 1) (by rw [hD]; trivial) (.inl rfl) (fun b u hb hu => (sb.2 b hb).trans hu) ex (siO_ok r))
end
/-! ### their comprehension -/
def tSi (w : World) (wi : TI) (g : TG) (tt : TT) (te : TE) (vs : List Nat) : TE := fun σ H Q => wi σ H fun J H1 => ∀ D, H1 D = none → ∃ V : Nat → Nat → Hp → Prop, (∃ m, V 0 m (upd H1 D (SiO w D (fun _ => false) 0))) ∧ ∀ i m H, V i m H →
  (J.stop i H ∧ Q (.ref D) H) ∨ (J.go i H ∧ ∃ N : Hp → Prop, (∀ H', N H' → ∃ m', m' < m ∧ V (i + 1) m' H') ∧ ∀ x H', J.yld i H x H' → g x (L2.wipe σ vs) H' fun σ2 H2 => L2.wipe σ2 vs = L2.wipe σ vs ∧ tt σ2 H2 fun b H3 =>
    if b = true then te σ2 H3 fun y H4 => ∃ (c : Int) (S : Int → Bool) (n : Nat), y = .int c ∧ H4 D = some (SiO w D S n) ∧ n + 1 < scanBound ∧ N (upd H4 D (SiO w D (fun j => S j || decide (j = c)) (if S c = true then n else n + 1))) else N H3)
section
variable {X : Cx}
abbrev emptySet (w : World) : Obj := { cls := .type "set", dict := none, data := .set #[] 0 (.fresh 0 0 (!w.params.followText "set-order")) }
theorem pe_si {elt tg iter : Expr} {ifs : List Expr} {scope : Scope} {own : List (PySem.Str × Nat)} {pos : Pos} {wi : TI} {g : TG} {tt : TT} {te : TE} (hc : X.calm = true) (hN : X.N.Nodup) (hi : PI X tg iter wi) (ok : BlkOk X.N X.env.scope scope own)
    (hg : ∀ (s : Shared) (H : Hp) (C : Addr) (cl : List (PySem.Str × Addr)) (fp : List Addr), PG (X.blk s H scope (compEnvC scope cl C X.env) fp) tg g) (ht : ∀ (s : Shared) (H : Hp) (C : Addr) (cl : List (PySem.Str × Addr)) (fp : List Addr), PTs (X.blk s H scope (compEnvC scope cl C X.env) fp) ifs tt)
    (he : ∀ (s : Shared) (H : Hp) (C : Addr) (cl : List (PySem.Str × Addr)) (fp : List Addr), PE (X.blk s H scope (compEnvC scope cl C X.env) fp) elt te) (hs : ∀ x, foldedSetIterable iter X.env x = pure x := by intro _; rfl) :
    PE X (.SetComp elt [⟨tg, iter, ifs, 0⟩] scope pos) (tSi X.w wi g tt te (own.map (·.2))) := by
  refine ⟨fun pins s σ H Q I h => ?_⟩
  have clo : ∀ y ∈ scope.names, y.2 = .free → ∃ c, X.env.cells.lookup y.1 = some c := fun y hy e => (ok.free y hy e).elim (fun k => I.ok.has _ (.inl k)) fun k => I.ok.has _ (.inr k)
  rw [PpSet.eval_SetComp]
  refine wpAny_comprehension_free (use := none) rfl hs (closure_ok clo) ok.kind (fun y hy e => (ok.uniq y hy).trans (by rw [e])) (thn (hi.run pins s σ H _ I h) fun xv s1 hx => thn hx fun itv s2 h2 => ?_)
  obtain ⟨it, fp, tn, J, H2, rfl, I2, T, st2, f2, q⟩ := h2
  refine PpSet.newSet_ok (newEnv_comp ?_)
  have hDn : H2 s2.heap.objs.size = none := I2.hok.fresh (Nat.le_refl _)
  obtain ⟨V, ⟨m0, v0⟩, turn⟩ := q _ hDn
  generalize eD : s2.heap.objs.size = D at hDn v0 turn ⊢
  obtain ⟨s3, hs3⟩ : ∃ s3 : Shared, s3 = { s2 with heap := s2.heap.push (emptySet X.w) } := ⟨_, rfl⟩
  have hh3 : s3.heap = s2.heap.push (emptySet X.w) := by rw [hs3]
  have up3 : ∀ b o, s2.heap.get? b = some o → s3.heap.get? b = some o := fun b o e => by rw [hh3]; exact Heap.get?_push_of_some _ e
  have I3 : Inv X pins σ (upd H2 D (SiO X.w D (fun _ => false) 0)) s3 := by
    rw [hs3]
    refine I2.laid (t' := s2.toks) (fun b o e => Heap.get?_push_of_some _ e) (Nat.le_of_eq eD) ?_
    rw [← eD]
    exact siO_ok (setR_fresh X.w)
  have ffp : ∀ b ∈ fp, b < s2.heap.objs.size := fun b hb => let ⟨_, e, _⟩ := T.obj _ _ st2 b hb; Heap.lt_size e
  have f3 : ∀ b ∈ fp, FpOk X pins (upd H2 D (SiO X.w D (fun _ => false) 0)) b ∧ b < s3.heap.objs.size := fun b hb => by
    have lt := ffp b hb
    refine ⟨⟨?_, (f2 b hb).2⟩, ?_⟩
    · rw [upd_ne (eD ▸ Nat.ne_of_lt lt)]; exact (f2 b hb).1
    · rw [hh3, Heap.size_push]; exact Nat.lt_succ_of_lt lt
  have st3 : tn 0 s3.heap := T.keep _ _ _ st2 fun b _ => up3 b
  have I4 := block_start I3 ok hN f3
  obtain ⟨H3, eH3⟩ : ∃ H3, H3 = upd H2 D (SiO X.w D (fun _ => false) 0) := ⟨_, rfl⟩
  rw [← eH3] at I3 I4 v0 f3
  have pg := hg s3 H3 s3.heap.objs.size (cellsFrom (s3.heap.objs.size + 1) scope.names (cloFrom X.env.cells scope.names [])) fp
  have pt := ht s3 H3 s3.heap.objs.size (cellsFrom (s3.heap.objs.size + 1) scope.names (cloFrom X.env.cells scope.names [])) fp
  have pe := he s3 H3 s3.heap.objs.size (cellsFrom (s3.heap.objs.size + 1) scope.names (cloFrom X.env.cells scope.names [])) fp
  have goal : codeAny (model X.prog X.w) X.A (.compStart (.SetComp elt [⟨tg, iter, ifs, 0⟩] scope pos) 0 (.ref it) (.ref D) (compEnvC scope (cellsFrom (s3.heap.objs.size + 1) scope.names (cloFrom X.env.cells scope.names [])) s3.heap.objs.size X.env)) (compPost (model X.prog X.w) X.A X.xe none (EP X pins σ Q) (.ref D) s3.heap.objs.size)
      { s3 with heap := pushCells (s3.heap.push { cls := .type "dict", data := .dict #[] }) scope.names } := by
    generalize hce : compEnvC scope (cellsFrom (s3.heap.objs.size + 1) scope.names (cloFrom X.env.cells scope.names [])) s3.heap.objs.size X.env = ce at I4 pg pt pe ⊢
    have cL : ce.locals = s3.heap.objs.size := by rw [← hce]; rfl
    obtain ⟨s4, hs4⟩ : ∃ s4 : Shared, s4 = { s3 with heap := pushCells (s3.heap.push { cls := .type "dict", data := .dict #[] }) scope.names } := ⟨_, rfl⟩
    rw [← hs4] at I4 ⊢
    have st4 : tn 0 s4.heap := T.keep _ _ _ st3 fun b _ o e => by rw [hs4]; exact pushCells_keeps _ _ _ _ (Heap.get?_push_of_some _ e)
    have stat : ∀ {σ' : L2.St} {H' : Hp} {s' : Shared}, Inv (X.blk s3 H3 scope ce fp) [] σ' H' s' → (∀ b ∈ fp, H' b = none) → ∀ b ∈ fp, FpOk (X.blk s3 H3 scope ce fp) [] H' b := fun I' z b hb =>
      ⟨z b hb, (I'.ok.exf b hb).1, I'.ok.exfs b hb, .inl hb, fun x c e => (I'.ok.exf b hb).2 x c e, fun p hp => by cases (show p ∈ ([] : List (Addr × Obj)) from hp)⟩
    let Z : Nat → Shared → Prop := fun n s' => ∃ i H', Inv (X.blk s3 H3 scope ce fp) [] (L2.wipe σ (own.map (·.2))) H' s' ∧ tn i s'.heap ∧ (∀ b ∈ fp, H' b = none) ∧ V i n H'
    have lp : codeAny (model X.prog X.w) X.A (.compLoop (.SetComp elt [⟨tg, iter, ifs, 0⟩] scope pos) 0 (.ref it) (.ref D) ce) (compPost (model X.prog X.w) X.A X.xe none (EP X pins σ Q) (.ref D) s3.heap.objs.size) s4 := by
      refine PpSet.compLoopS_any Z ?_ m0 ⟨0, H3, I4, st4, fun b hb => (f3 b hb).1.1, v0⟩
      rintro n s5 ⟨i, H5, I5, st5, n5, v5⟩
      rcases turn i n H5 v5 with ⟨stop, fin⟩ | ⟨go, N, hN', step⟩
      · refine thnF (T.done (X.blk s3 H3 scope ce fp) rfl rfl rfl hc i [] s5 _ H5 (fun _ _ => False) I5 (stat I5 n5) st5 stop) fun r s6 hr => ?_
        obtain ⟨rfl, I6⟩ := hr
        have I7 : Inv X pins σ H5 s6 := I3.call' (ch := fp) I6.os I6.base I6.hok I6.bare fun b hb => let ⟨_, z1, _, z2, z3, z4⟩ := (f3 b hb).1; ⟨z2, z1, z3, z4⟩
        have nC : H5 s3.heap.objs.size = none := cL ▸ (show H5 ce.locals = none from I6.free)
        obtain ⟨m, hm, _⟩ := I6.loc
        have hm : s6.heap.Ns s3.heap.objs.size m := cL ▸ (show s6.heap.Ns ce.locals m from hm)
        obtain ⟨p0, p1, p2, p3, p4, p5⟩ := I3.fpOk (Nat.le_refl _) nC
        exact ⟨m, hm, fun h'' sb => ⟨.ref D, H5, I7.turned (t' := s6.toks) (fun b o hb e => (sb.2 b hb).trans e) nC p1 p3 p4 p5, rfl, fin⟩⟩
      · refine thnF (T.item (X.blk s3 H3 scope ce fp) rfl rfl rfl hc i [] s5 _ H5 (fun _ _ => False) I5 (stat I5 n5) st5 go) fun r s6 hr => ?_
        obtain ⟨u, rfl, h6⟩ := hr
        refine thnF h6 fun _ s7 ⟨x, H7, I7, r7, y7, st7, n7⟩ => ?_
        have J7 := I7.pinned (stat I7 n7) (T.obj _ _ st7)
        refine thnF (pg.run _ s7 _ H7 x u _ J7 r7 (step x H7 y7)) fun _ s8 ⟨σ8, H8, I8, w8, q8⟩ => thnF (pt.run _ s8 σ8 H8 _ I8 q8) fun b s9 ⟨H9, I9, q9⟩ => ?_
        have back : ∀ {s' : Shared} {H' : Hp}, Inv (X.blk s3 H3 scope ce fp) ([] ++ pinsAt fp s7.heap) σ8 H' s' → N H' → ∃ m, m < n ∧ Z m s' := fun {s' H'} I' nx => by
          obtain ⟨m', hm, v'⟩ := hN' H' nx
          have pin : ∀ b ∈ fp, ∀ o, s7.heap.get? b = some o → s'.heap.get? b = some o ∧ H' b = none := fun b hb o e =>
            have z := I'.pin (b, o) (List.mem_append_right _ (List.mem_append_right _ (mem_pinsAt hb e)))
            ⟨z.1, z.2.1⟩
          refine ⟨m', hm, i + 1, H', (I'.unpinned (pins := [])).weak (by rw [← w8, L2.wipe_length]) (fun j v e => (wipe_some (w8.symm ▸ e)).1), T.keep _ _ _ st7 fun b hb o e => (pin b hb o e).1, fun b hb => ?_, v'⟩
          exact let ⟨o, e, _⟩ := T.obj _ _ st7 b hb; (pin b hb o e).2
        cases b with
        | false => exact back I9 (by simpa using q9)
        | true =>
          rw [if_pos rfl] at q9
          refine thnF (pe.run _ s9 σ8 H9 _ I9 q9) fun z s10 ⟨yv, H10, I10, r10, c, S0, n0, ey, hD10, hz10, nx⟩ => ?_
          subst ey
          obtain ⟨t, rfl⟩ : ∃ t, z = Value.int c t := r10
          exact siO_add (X := X.blk s3 H3 scope ce fp) I10 hD10 hz10 fun s11 I11 => back I11 nx
    exact PpSet.codeAny_compStart_set lp (T.self X.A 0 _ _ _ st4 lp)
  rw [hs3] at goal
  exact goal
end
/-- the members put in one by one, and how many they are -/
def putZ (S : Int → Bool) : List Int → Int → Bool
  | [], j => S j
  | c :: cs, j => putZ (fun j => S j || decide (j = c)) cs j
def cntS (S : Int → Bool) (n : Nat) : List Int → Nat
  | [] => n
  | c :: cs => cntS (fun j => S j || decide (j = c)) (if S c = true then n else n + 1) cs
theorem putZ_snoc (cs : List Int) (c : Int) : ∀ S : Int → Bool, putZ S (cs ++ [c]) = fun j => putZ S cs j || decide (j = c) := by
  induction cs with
  | nil => intro S; rfl
  | cons d cs ih => intro S; exact ih _
theorem cntS_snoc (cs : List Int) (c : Int) : ∀ (S : Int → Bool) (n : Nat), cntS S n (cs ++ [c]) = if putZ S cs c = true then cntS S n cs else cntS S n cs + 1 := by
  induction cs with
  | nil => intro S n; rfl
  | cons d cs ih => intro S n; exact ih _ _
theorem cntS_le (cs : List Int) : ∀ (S : Int → Bool) (n : Nat), cntS S n cs ≤ n + cs.length := by
  induction cs with
  | nil => intro S n; exact Nat.le_refl _
  | cons d cs ih =>
    intro S n
    refine Nat.le_trans (ih _ _) ?_
    rw [List.length_cons]
    split <;> omega
theorem putZ_mem (cs : List Int) : ∀ (S : Int → Bool) (j : Int), putZ S cs j = true ↔ S j = true ∨ j ∈ cs := by
  induction cs with
  | nil => intro S j; simp [putZ]
  | cons d cs ih =>
    intro S j
    show putZ (fun j => S j || decide (j = d)) cs j = true ↔ _
    rw [ih]; simp only [Bool.or_eq_true, decide_eq_true_eq, List.mem_cons]
    constructor
    · rintro ((h | h) | h)
      · exact .inl h
      · exact .inr (.inl h)
      · exact .inr (.inr h)
    · rintro (h | h | h)
      · exact .inl (.inl h)
      · exact .inl (.inr h)
      · exact .inr h
theorem sortedI_uniq : ∀ {xs ys : List Int}, xs.Pairwise (· < ·) → ys.Pairwise (· < ·) → (∀ k, k ∈ xs ↔ k ∈ ys) → xs = ys
  | [], [], _, _, _ => rfl
  | [], y :: ys, _, _, h => by have := (h y).mpr List.mem_cons_self; cases this
  | x :: xs, [], _, _, h => by have := (h x).mp List.mem_cons_self; cases this
  | x :: xs, y :: ys, p, q, h => by
    obtain ⟨p1, p2⟩ := List.pairwise_cons.mp p
    obtain ⟨q1, q2⟩ := List.pairwise_cons.mp q
    have e : x = y := by
      rcases List.mem_cons.mp ((h x).mp List.mem_cons_self) with e | e
      · exact e
      · rcases List.mem_cons.mp ((h y).mpr List.mem_cons_self) with e2 | e2
        · exact e2.symm
        · have := q1 x e; have := p1 y e2; omega
    subst e
    rw [sortedI_uniq p2 q2 fun k => ?_]
    constructor
    · intro hk
      rcases List.mem_cons.mp ((h k).mp (List.mem_cons_of_mem _ hk)) with z | z
      · have := p1 k hk; omega
      · exact z
    · intro hk
      rcases List.mem_cons.mp ((h k).mpr (List.mem_cons_of_mem _ hk)) with z | z
      · have := q1 k hk; omega
      · exact z
abbrev LexS (ps : List (Int × Int)) : Prop := ps.Pairwise fun a b => SrtO.lexB b a = false
theorem lex_anti {a b : Int × Int} (h1 : SrtO.lexB a b = false) (h2 : SrtO.lexB b a = false) : a = b := by
  have x := SrtO.lexB_no.mp h1
  have y := SrtO.lexB_no.mp h2
  exact Prod.ext (by omega) (by omega)
theorem lex_uniq : ∀ {xs ys : List (Int × Int)}, xs.Perm ys → LexS xs → LexS ys → xs = ys
  | [], ys, h, _, _ => (List.nil_perm.mp h).symm
  | x :: xs, [], h, _, _ => (List.cons_ne_nil _ _ (List.perm_nil.mp h)).elim
  | x :: xs, y :: ys, h, p, q => by
    obtain ⟨p1, p2⟩ := List.pairwise_cons.mp p
    obtain ⟨q1, q2⟩ := List.pairwise_cons.mp q
    have e : x = y := by
      rcases List.mem_cons.mp (h.mem_iff.mp List.mem_cons_self) with e | hx
      · exact e
      · rcases List.mem_cons.mp (h.mem_iff.mpr List.mem_cons_self) with e | hy
        · exact e.symm
        · exact lex_anti (q1 x hx) (p1 y hy)
    subst e
    rw [lex_uniq h.cons_inv p2 q2]

section
variable {X : Cx} {W : WX} {F : Fm} {ps : List V} {σ : L2.St} {G H : Hp} {A : List Addr} {env : Ev} {e e2 elt tg iter kx vx : Expr} {es : List Expr} {ifs : List Expr} {scope : Scope} {own : List (Str × Nat)} {pos p p2 pos2 : Pos} {it : Ev → Rs (List D)} {g : D → Ev → Option Ev} {t : Ev → Rs Bool} {d dk dv : DE} {C f x : Str} {i : Nat} {py spos : Pos}
theorem dSet_run {e : Expr} {t : TE} {D : Ends} (P : (dSet i d env).post (okS X F ps D G) (exP X W F ps G)) : (d env).post (okE X F ps σ G fun x H1 => gName i x σ H1 D.nx) (exP X W F ps G) := by
  unfold dSet at P
  cases q : d env with
  | stuck => rw [q] at P; exact P.elim
  | exc c fs env1 => rw [q] at P; exact P
  | ok u env1 =>
    rw [q] at P
    intro v G1 H1 A1 B s1 I1 i1 R1
    have P : (nxO (putS i u env1)).post (okS X F ps D G) (exP X W F ps G) := P
    cases q2 : putS i u env1 with
    | none => rw [q2] at P; exact P.elim
    | some env2 =>
      rw [q2] at P
      obtain ⟨A2, I2, R2⟩ := putS_run I1 R1 i1 q2
      exact P _ G1 H1 A2 s1 I2 R2
theorem SS.setDc (hc : X.calm = true) (hN : X.N.Nodup) (hy : X.N[i]? = some x) (hyl : X.env.scope.names.lookup x = some .local) (hsw : swapsWith (.DictComp kx vx [⟨tg, iter, ifs, 0⟩] scope pos) (some (.Name x py)) spos.line X.env = pure true) (ok : BlkOk X.N X.env.scope scope own) (nd : (own.map (·.2)).Nodup) (hs : ∀ x, foldedSetIterable iter X.env x = pure x) (hi : SI X W tg iter it)
    (hg : ∀ s H C cl fp, SGw (Bk X s H scope C cl fp) (own.map (·.2)) tg g) (ht : ∀ s H C cl fp, STs (Bk X s H scope C cl fp) W0 ifs t) (hk : ∀ s H C cl fp, SE (Bk X s H scope C cl fp) W0 kx dk) (hv : ∀ s H C cl fp, SE (Bk X s H scope C cl fp) W0 vx dv) :
    SS X W (.Assign [.Name x py] (.DictComp kx vx [⟨tg, iter, ifs, 0⟩] scope pos) spos) (dSet i (dDc it (own.map (·.2)) (turnE (own.map (·.2)) g t (emK dk dv)))) := fun F ps σ G H A D env I R P => by
  refine PS.go (ps_setDc hc hN hy hyl hsw pi_run ok (fun s H C cl fp => ⟨fun pins s' σ H' v u Q J r h => (h s H C cl fp).r pins s' u J r⟩) (fun s H C cl fp => ⟨fun pins s' σ H' Q J h => (h s H C cl fp).r pins s' J⟩) (fun s H C cl fp => ⟨fun pins s' σ H' Q J h => (h s H C cl fp).r pins s' J⟩) (fun s H C cl fp => ⟨fun pins s' σ H' Q J h => (h s H C cl fp).r pins s' J⟩) hs) (dc_run hg ht hk hv hi nd I R (dSet_run (e := kx) (t := eAll X scope kx) P))
/-! ### sorted -/
abbrev CallV' (X : Cx) (o : D → Option T) : Prop := CallV1 X (.builtin "sorted") o
/-- ints in order -/
def insI (i : Int) : List Int → List Int
  | [] => [i]
  | j :: js => if i ≤ j then i :: j :: js else j :: insI i js
def srtI : List Int → List Int
  | [] => []
  | i :: is => insI i (srtI is)
theorem insI_perm (i : Int) : ∀ js, (insI i js).Perm (i :: js)
  | [] => .refl _
  | j :: js => by
    unfold insI
    split
    · exact .refl _
    · exact ((insI_perm i js).cons j).trans (.swap i j js)
theorem srtI_perm : ∀ js, (srtI js).Perm js
  | [] => .refl _
  | i :: is => (insI_perm i _).trans ((srtI_perm is).cons i)
theorem insI_srt (i : Int) : ∀ {js : List Int}, js.Pairwise (· ≤ ·) → (insI i js).Pairwise (· ≤ ·)
  | [], _ => List.pairwise_singleton _ _
  | j :: js, h => by
    obtain ⟨a, b⟩ := List.pairwise_cons.mp h
    unfold insI
    split
    · rename_i hij
      exact List.pairwise_cons.mpr ⟨fun k hk => (List.mem_cons.mp hk).elim (fun e => e ▸ hij) fun z => Int.le_trans hij (a k z), h⟩
    · rename_i hij
      refine List.pairwise_cons.mpr ⟨fun k hk => ?_, insI_srt i b⟩
      rcases List.mem_cons.mp ((insI_perm i js).mem_iff.mp hk) with e | e
      · omega
      · exact a k e
theorem srtI_srt : ∀ js, (srtI js).Pairwise (· ≤ ·)
  | [] => .nil
  | i :: is => insI_srt i (srtI_srt is)
theorem leI_uniq : ∀ {xs ys : List Int}, xs.Perm ys → xs.Pairwise (· ≤ ·) → ys.Pairwise (· ≤ ·) → xs = ys
  | [], ys, h, _, _ => (List.nil_perm.mp h).symm
  | x :: xs, [], h, _, _ => (List.cons_ne_nil _ _ (List.perm_nil.mp h)).elim
  | x :: xs, y :: ys, h, p, q => by
    obtain ⟨p1, p2⟩ := List.pairwise_cons.mp p
    obtain ⟨q1, q2⟩ := List.pairwise_cons.mp q
    have e : x = y := by
      rcases List.mem_cons.mp (h.mem_iff.mp List.mem_cons_self) with e | hx
      · exact e
      · rcases List.mem_cons.mp (h.mem_iff.mpr List.mem_cons_self) with e | hy
        · exact e.symm
        · exact Int.le_antisymm (p1 y hy) (q1 x hx)
    subst e
    rw [leI_uniq h.cons_inv p2 q2]
/-- texts in order -/
def insS (i : Str) : List Str → List Str
  | [] => [i]
  | j :: js => if Mq.sle i j then i :: j :: js else j :: insS i js
def srtS : List Str → List Str
  | [] => []
  | i :: is => insS i (srtS is)
theorem insS_perm (i : Str) : ∀ js, (insS i js).Perm (i :: js)
  | [] => .refl _
  | j :: js => by
    unfold insS
    split
    · exact .refl _
    · exact ((insS_perm i js).cons j).trans (.swap i j js)
theorem srtS_perm : ∀ js, (srtS js).Perm js
  | [] => .refl _
  | i :: is => (insS_perm i _).trans ((srtS_perm is).cons i)
theorem insS_srt (i : Str) : ∀ {js : List Str}, (js.Pairwise fun a b => Mq.sle a b = true) → (insS i js).Pairwise fun a b => Mq.sle a b = true
  | [], _ => List.pairwise_singleton _ _
  | j :: js, h => by
    obtain ⟨a, b⟩ := List.pairwise_cons.mp h
    unfold insS
    split
    · rename_i hij
      exact List.pairwise_cons.mpr ⟨fun k hk => (List.mem_cons.mp hk).elim (fun e => e ▸ hij) fun z => Mq.sle_trans hij (a k z), h⟩
    · rename_i hij
      refine List.pairwise_cons.mpr ⟨fun k hk => ?_, insS_srt i b⟩
      rcases List.mem_cons.mp ((insS_perm i js).mem_iff.mp hk) with e | e
      · subst e; exact (Mq.sle_total j k).resolve_right (by simpa using hij)
      · exact a k e
theorem srtS_srt : ∀ js, (srtS js).Pairwise fun a b => Mq.sle a b = true
  | [] => .nil
  | i :: is => insS_srt i (srtS_srt is)
theorem srtS_uniq {xs ys : List Str} (h : ys.Perm xs) (hs : sortedS ys = true) : ys = srtS xs := Mq.sorted_uniq (h.trans (srtS_perm xs).symm) hs (Mq.pair_sorted (srtS_srt xs))
/-- pairs in order -/
def insP (i : Int × Int) : List (Int × Int) → List (Int × Int)
  | [] => [i]
  | j :: js => if SrtO.lexB j i = false then i :: j :: js else j :: insP i js
def srtP : List (Int × Int) → List (Int × Int)
  | [] => []
  | i :: is => insP i (srtP is)
theorem insP_perm (i : Int × Int) : ∀ js, (insP i js).Perm (i :: js)
  | [] => .refl _
  | j :: js => by
    unfold insP
    split
    · exact .refl _
    · exact ((insP_perm i js).cons j).trans (.swap i j js)
theorem srtP_perm : ∀ js, (srtP js).Perm js
  | [] => .refl _
  | i :: is => (insP_perm i _).trans ((srtP_perm is).cons i)
theorem insP_srt (i : Int × Int) : ∀ {js : List (Int × Int)}, LexS js → LexS (insP i js)
  | [], _ => List.pairwise_singleton _ _
  | j :: js, h => by
    obtain ⟨a, b⟩ := List.pairwise_cons.mp h
    unfold insP
    split
    · rename_i hij
      refine List.pairwise_cons.mpr ⟨fun k hk => ?_, h⟩
      rcases List.mem_cons.mp hk with e | e
      · rw [e]; exact hij
      · have h1 := SrtO.lexB_no.mp hij
        have h2 := SrtO.lexB_no.mp (a k e)
        exact SrtO.lexB_no.mpr (by omega)
    · rename_i hij
      refine List.pairwise_cons.mpr ⟨fun k hk => ?_, insP_srt i b⟩
      rcases List.mem_cons.mp ((insP_perm i js).mem_iff.mp hk) with e | e
      · rw [e]
        have h1 := SrtO.lexB_iff.mp (by simpa using hij)
        exact SrtO.lexB_no.mpr (by omega)
      · exact a k e
theorem srtP_srt : ∀ js, LexS (srtP js)
  | [] => .nil
  | i :: is => insP_srt i (srtP_srt is)
def pairsD : List D → Option (List (Int × Int))
  | [] => some []
  | .tup [.int i, .int j] :: ds => (pairsD ds).map ((i, j) :: ·)
  | _ => none
def prD' (q : Int × Int) : D := .tup [.int q.1, .int q.2]
/-- the pair that a value stands for -/
def pkV (G : Hp) (v : V) : Int × Int := match v with
  | .ref t => (match G t with
    | some (.tup [.int a, .int b]) => (a, b)
    | _ => (0, 0))
  | _ => (0, 0)
theorem pairsD_is {K : PySem.W.Frag} {G H : Hp} (s : Same G H) : ∀ {ds : List D} {vs : List V} {qs : List (Int × Int)}, IsL K G vs ds → pairsD ds = some qs → vs.map (pkV H) = qs ∧ (∀ v ∈ vs, ∃ t, v = .ref t ∧ H t = some (.tup [.int (pkV H v).1, .int (pkV H v).2]) ∧ G t = H t)
  | [], _, _, h, e => by cases h; cases e; exact ⟨rfl, fun _ z => by cases z⟩
  | d :: ds, _, qs, h, e => by
    unfold pairsD at e
    split at e
    · rename_i h0
      cases h0
    · rename_i i j ds' h0
      injection h0 with h1 h2
      subst h1 h2
      cases h with
      | cons h t =>
        obtain ⟨qs', e1, rfl⟩ := Option.map_eq_some_iff.mp e
        obtain ⟨r1, r2⟩ := pairsD_is s t e1
        obtain ⟨a, xs, rfl, ha, r⟩ := h.tupE
        have er : xs = [V.int i, V.int j] := IsL.ints (ns := [i, j]) r
        subst er
        have hb := s _ _ ha
        have pk : pkV H (.ref a) = (i, j) := by unfold pkV; simp only [hb]
        refine ⟨by rw [List.map_cons, pk, r1], fun v hv => ?_⟩
        rcases List.mem_cons.mp hv with z | z
        · subst z; exact ⟨a, rfl, by rw [pk]; exact hb, by rw [ha, hb]⟩
        · exact r2 v z
    · cases e
theorem prs_isL {K : PySem.W.Frag} {G H : Hp} : ∀ {xs : List V}, (∀ v ∈ xs, ∃ t, v = .ref t ∧ H t = some (.tup [.int (pkV H v).1, .int (pkV H v).2]) ∧ G t = H t) → IsL K G xs ((xs.map (pkV H)).map prD')
  | [], _ => .nil
  | x :: xs, h => by
    obtain ⟨t, e, ht, hg⟩ := h x List.mem_cons_self
    refine .cons ?_ (prs_isL fun y hy => h y (List.mem_cons_of_mem _ hy))
    subst e
    rw [← hg] at ht
    exact .tup ht (.cons (.int _) (.cons (.int _) .nil))
def keysS : List Key → Option (List Str)
  | [] => some []
  | .inr x :: ks => (keysS ks).map (x :: ·)
  | _ => none
def keysI : List Key → Option (List Int)
  | [] => some []
  | .inl x :: ks => (keysI ks).map (x :: ·)
  | _ => none
theorem keysS_is : ∀ {ks : List Key} {xs : List Str}, keysS ks = some xs → ks = xs.map Sum.inr
  | [], _, e => by cases e; rfl
  | .inr x :: ks, xs, e => by
    obtain ⟨ys, e1, rfl⟩ := Option.map_eq_some_iff.mp (show (keysS ks).map (x :: ·) = some xs from e)
    rw [keysS_is e1]; rfl
  | .inl x :: ks, xs, e => by cases e
theorem keysI_is : ∀ {ks : List Key} {xs : List Int}, keysI ks = some xs → ks = xs.map Sum.inl
  | [], _, e => by cases e; rfl
  | .inl x :: ks, xs, e => by
    obtain ⟨ys, e1, rfl⟩ := Option.map_eq_some_iff.mp (show (keysI ks).map (x :: ·) = some xs from e)
    rw [keysI_is e1]; rfl
  | .inr x :: ks, xs, e => by cases e
/-- sorted(list of ints, of pairs of ints, of few texts; a dict of few texts or ints) -/
def oSorted : D → Option T
  | .list ds => match intsD ds with
    | some ns => some (.lst ((srtI ns).map .int))
    | none => match strsD ds with
      | some xs => if xs.length < 64 then some (.lst ((srtS xs).map .str)) else none
      | none => (pairsD ds).map fun qs => .lst ((srtP qs).map prD')
  | .dict ks _ => match keysS ks with
    | some xs => if xs.length < 64 then some (.lst ((srtS xs).map .str)) else none
    | none => match keysI ks with
      | some xs => if xs.length < 64 then some (.lst ((srtI xs).map .int)) else none
      | none => none
  | _ => none
theorem cv_sorted (hc : X.calm = true) : CallV1 X (.builtin "sorted") oSorted := fun F A G H v x t Q R h e k => by
  cases x with
  | list ds =>
    obtain ⟨a, xs, rfl, ha, r⟩ := h.list _ rfl
    unfold oSorted at e
    dsimp only at e
    cases q1 : intsD ds with
    | some ns =>
      rw [q1] at e
      cases e
      rw [intsD_is r q1] at ha
      refine CallR.go cr_sortedI ⟨a, ns, rfl, SqL.of ha, fun ns' p pm pw hp => ?_⟩
      rw [leI_uniq (pm.trans (srtI_perm ns).symm) pw (srtI_srt ns)]
      exact k.lst (IsL.of_ints _) R hp
    | none =>
      rw [q1] at e
      dsimp only at e
      cases q2 : strsD ds with
      | some ys =>
        rw [q2] at e
        have e : (if ys.length < 64 then some (T.lst ((srtS ys).map .str)) else none) = some t := e
        by_cases hz : ys.length < 64
        · rw [if_pos hz] at e
          cases e
          rw [strsD_is r q2] at ha
          refine CallR.go cr_sortedS ⟨a, ys, rfl, SqL.of ha, hz, fun zs p pm pw hp => ?_⟩
          rw [srtS_uniq pm pw]
          exact k.lst (IsL.of_strs _) R hp
        · rw [if_neg hz] at e; cases e
      | none =>
        rw [q2] at e
        obtain ⟨qs, q3, rfl⟩ := Option.map_eq_some_iff.mp (show (pairsD ds).map (fun qs => T.lst ((srtP qs).map prD')) = some t from e)
        obtain ⟨m1, m2⟩ := pairsD_is R.gh r q3
        refine CallR.go cr_sortedPO ⟨a, xs, pkV H, rfl, SqL.of ha, fun v hv => ?_, fun ys p h1 h2 hp => ?_⟩
        · obtain ⟨t, e, ht, _⟩ := m2 v hv
          exact ⟨t, e, ht⟩
        · have eq : ys.map (pkV H) = srtP qs := lex_uniq ((h2.perm.map _).trans (by rw [m1]; exact (srtP_perm qs).symm)) (List.pairwise_map.mpr h1) (srtP_srt qs)
          have := prs_isL (K := X.K) (G := G) (H := H) (xs := ys) fun v hv => m2 v (h2.perm.mem_iff.mp hv)
          rw [eq] at this
          exact k.lst this R hp
  | dict ks ds =>
    obtain ⟨a, kv, rfl, ha, hk, r⟩ := h.dict _ _ rfl
    subst hk
    unfold oSorted at e
    dsimp only at e
    cases q1 : keysS (kv.map (·.1)) with
    | some ys =>
      rw [q1] at e
      have e : (if ys.length < 64 then some (T.lst ((srtS ys).map .str)) else none) = some t := e
      by_cases hz : ys.length < 64
      · rw [if_pos hz] at e
        cases e
        refine CallR.go (call_sortedD hc) ⟨a, kv, ys, rfl, ha, keysS_is q1, hz, fun zs p pm pw hp => ?_⟩
        rw [srtS_uniq pm pw]
        exact k.lst (IsL.of_strs _) R hp
      · rw [if_neg hz] at e; cases e
    | none =>
      rw [q1] at e
      dsimp only at e
      cases q2 : keysI (kv.map (·.1)) with
      | none => rw [q2] at e; cases e
      | some ys =>
        rw [q2] at e
        have e : (if ys.length < 64 then some (T.lst ((srtI ys).map .int)) else none) = some t := e
        by_cases hz : ys.length < 64
        · rw [if_pos hz] at e
          cases e
          refine CallR.go (call_sortedDI hc) ⟨a, kv, ys, rfl, ha, keysI_is q2, hz, fun zs p pm pw hp => ?_⟩
          rw [leI_uniq (pm.trans (srtI_perm ys).symm) pw (srtI_srt ys)]
          exact k.lst (IsL.of_ints _) R hp
        · rw [if_neg hz] at e; cases e
  | _ => cases e
end
end Dn

namespace Dn
open PySem PySem.Spec PyProof.Rows L2
/-! ### sorted({elt for tg in iter if ..}), ints -/
def insU (i : Int) : List Int → List Int
  | [] => [i]
  | j :: js => if i < j then i :: j :: js else if i = j then j :: js else j :: insU i js
def usrt : List Int → List Int := List.foldl (fun js i => insU i js) []
theorem insU_mem (i k : Int) : ∀ js, k ∈ insU i js ↔ k = i ∨ k ∈ js
  | [] => by simp [insU]
  | j :: js => by
    unfold insU
    split
    · simp
    · split
      · rename_i h; subst h; simp
      · rw [List.mem_cons, insU_mem i k js, List.mem_cons]
        constructor
        · rintro (h | h | h)
          · exact .inr (.inl h)
          · exact .inl h
          · exact .inr (.inr h)
        · rintro (h | h | h)
          · exact .inr (.inl h)
          · exact .inl h
          · exact .inr (.inr h)
theorem insU_srt (i : Int) : ∀ {js : List Int}, js.Pairwise (· < ·) → (insU i js).Pairwise (· < ·)
  | [], _ => List.pairwise_singleton _ _
  | j :: js, h => by
    obtain ⟨a, b⟩ := List.pairwise_cons.mp h
    unfold insU
    split
    · rename_i hij
      exact List.pairwise_cons.mpr ⟨fun k hk => (List.mem_cons.mp hk).elim (fun e => e ▸ hij) fun z => Int.lt_trans hij (a k z), h⟩
    · split
      · exact h
      · rename_i h1 h2
        refine List.pairwise_cons.mpr ⟨fun k hk => ?_, insU_srt i b⟩
        rcases (insU_mem i k js).mp hk with e | e
        · omega
        · exact a k e
theorem insU_len (i : Int) : ∀ {js : List Int}, js.Pairwise (· < ·) → (insU i js).length = if i ∈ js then js.length else js.length + 1
  | [], _ => by simp [insU]
  | j :: js, h => by
    obtain ⟨a, b⟩ := List.pairwise_cons.mp h
    unfold insU
    split
    · rename_i hij
      rw [if_neg]
      · rfl
      · intro hm
        rcases List.mem_cons.mp hm with e | e
        · omega
        · have := a i e; omega
    · split
      · rename_i h2; subst h2; rw [if_pos List.mem_cons_self]
      · rename_i h1 h2
        rw [List.length_cons, insU_len i b]
        by_cases hm : i ∈ js
        · rw [if_pos hm, if_pos (List.mem_cons_of_mem _ hm)]; rfl
        · rw [if_neg hm, if_neg (fun z => (List.mem_cons.mp z).elim h2 hm)]; rfl
theorem usrt_snoc (cs : List Int) (c : Int) : usrt (cs ++ [c]) = insU c (usrt cs) := by unfold usrt; rw [List.foldl_append]; rfl
theorem rev_ind {α : Type} {P : List α → Prop} (h0 : P []) (hs : ∀ l a, P l → P (l ++ [a])) (l : List α) : P l := by
  have : ∀ l : List α, P l.reverse := by
    intro l
    induction l with
    | nil => exact h0
    | cons a l ih => rw [List.reverse_cons]; exact hs _ a ih
  have := this l.reverse
  rwa [List.reverse_reverse] at this
theorem usrt_ok (cs : List Int) : (usrt cs).Pairwise (· < ·) ∧ (∀ k, k ∈ usrt cs ↔ k ∈ cs) ∧ cntS (fun _ => false) 0 cs = (usrt cs).length := by
  refine rev_ind (P := fun cs => (usrt cs).Pairwise (· < ·) ∧ (∀ k, k ∈ usrt cs ↔ k ∈ cs) ∧ cntS (fun _ => false) 0 cs = (usrt cs).length) ⟨.nil, fun _ => Iff.rfl, rfl⟩ (fun l a ⟨h1, h2, h3⟩ => ?_) cs
  rw [usrt_snoc]
  refine ⟨insU_srt a h1, fun k => ?_, ?_⟩
  · rw [insU_mem, h2, List.mem_append, List.mem_singleton]; exact Or.comm
  · rw [cntS_snoc, insU_len a h1, h3]
    have e : putZ (fun _ => false) l a = true ↔ a ∈ usrt l := by rw [putZ_mem, h2]; simp
    by_cases hm : a ∈ usrt l
    · rw [if_pos (e.mpr hm), if_pos hm]
    · rw [if_neg (fun z => hm (e.mp z)), if_neg hm]
def emI (d : DE) : Ev → Rs Int := fun env => (d env).bindD fun y env => match y with
  | .int i => .ok i env
  | _ => .stuck
def dSortSc (it : Ev → Rs (List D)) (ws : List Nat) (tn : D → Ev → Rs (Option Int)) : DE := fun env => (dComp 4000 it ws tn (fun ads => .lst ((usrt ads).map .int)) env).bind fun t env => match t with
  | .lst ds => if ds.length < 64 then .ok (.lst ds) env else .stuck
  | _ => .stuck
section
variable {X : Cx} {W : WX} {F : Fm} {ps : List V} {σ : L2.St} {G H : Hp} {A : List Addr} {env : Ev} {elt tg iter : Expr} {ifs : List Expr} {scope : Scope} {own : List (Str × Nat)} {pos p pos2 : Pos} {it : Ev → Rs (List D)} {g : D → Ev → Option Ev} {t : Ev → Rs Bool} {d : DE}
theorem emits_si (he : ∀ s H C cl fp, SE (Bk X s H scope C cl fp) W0 elt d) (Dn : Addr) : Emits X Dn 4000 (fun _ ads o => o = SiO X.w Dn (putZ (fun _ => false) ads) (cntS (fun _ => false) 0 ads)) (emI d) fun σ2 H3 Nx => eAll X scope elt σ2 H3 fun y H4 => ∃ (c : Int) (S : Int → Bool) (n : Nat), y = .int c ∧ H4 Dn = some (SiO X.w Dn S n) ∧ n + 1 < scanBound ∧ Nx (upd H4 Dn (SiO X.w Dn (fun j => S j || decide (j = c)) (if S c = true then n else n + 1))) := by
  intro F ps σ G H A env ads o Nx I R hl hP h0 eo P sD HD CD clD fpD
  subst eo
  refine (he sD HD CD clD fpD).seqD I R (show ((d env).bindD fun y env => match y with
    | .int i => Rs.ok i env
    | _ => .stuck).post _ _ from P) fun z env6 vz G6 H6 A6 s6 I7 i7 R7 P5 => ?_
  cases z with
  | int c =>
    refine ⟨c, _, _, i7.intE, R7.keep Dn _ hP h0, ?_, ?_⟩
    · have h1 := cntS_le ads (fun _ => false) 0
      have h2 : (4001 : Nat) < scanBound := by decide
      omega
    · refine P5 G6 H6 A6 _ s6 I7 R7 ?_
      show _ = _
      rw [putZ_snoc, cntS_snoc]
  | _ => exact P5.elim
theorem si_run (hg : ∀ s H C cl fp, SGw (Bk X s H scope C cl fp) (own.map (·.2)) tg g) (ht : ∀ s H C cl fp, STs (Bk X s H scope C cl fp) W0 ifs t) (he : ∀ s H C cl fp, SE (Bk X s H scope C cl fp) W0 elt d) (hi : SI X W tg iter it) (nd : (own.map (·.2)).Nodup)
    {Q : VK} (I : EvIs X.K G H ps σ env A) (R : Rel F G H A) (P : (dComp 4000 it (own.map (·.2)) (turnE (own.map (·.2)) g t (emI d)) (fun ads => T.lst ((usrt ads).map .int)) env).post (fun u env' => ∀ Dn G' H' A' ads, u = T.lst ((usrt ads).map .int) → Same G G' → EvIs X.K G' H' ps σ env' A' → Rel F G' H' ([Dn] ++ A') → H' Dn = some (SiO X.w Dn (putZ (fun _ => false) ads) (cntS (fun _ => false) 0 ads)) → Q (.ref Dn) H') (exP X W F ps G)) :
    tSi X.w (RunIter X tg iter) (gAll X scope tg) (tAll X scope ifs) (eAll X scope elt) (own.map (·.2)) σ H Q :=
  comp_run (o0 := fun Dn => SiO X.w Dn (fun _ => false) 0) (f := fun ads => T.lst ((usrt ads).map .int)) (Ac := fun Dn _ ads o => o = SiO X.w Dn (putZ (fun _ => false) ads) (cntS (fun _ => false) 0 ads)) (fun _ _ _ _ _ _ h => h) (fun _ _ => rfl) (emits_si he) hg ht hi nd I R (P.imp (fun u env' _ h Dn G' H' A' o ads e s' I' R' ho eo => h Dn G' H' A' ads e s' I' R' (eo ▸ ho)) fun _ _ _ _ h => h)
theorem SE.sortSc (hm : X.mg "sorted" = none) (hg0 : Gl X "sorted") (hse : starEach [.SetComp elt [⟨tg, iter, ifs, 0⟩] scope pos2] X.env = (false, eval (.SetComp elt [⟨tg, iter, ifs, 0⟩] scope pos2) X.env) :: starEach [] X.env) (hpl : (backTo pos (starEach [] X.env)).any (·.1) = false)
    (hc : X.calm = true) (hN : X.N.Nodup) (ok : BlkOk X.N X.env.scope scope own) (nd : (own.map (·.2)).Nodup) (hs : ∀ x, foldedSetIterable iter X.env x = pure x) (hi : SI X W tg iter it)
    (hg : ∀ s H C cl fp, SGw (Bk X s H scope C cl fp) (own.map (·.2)) tg g) (ht : ∀ s H C cl fp, STs (Bk X s H scope C cl fp) W0 ifs t) (he : ∀ s H C cl fp, SE (Bk X s H scope C cl fp) W0 elt d) :
    SE X W (.Call (.Name "sorted" p) [.SetComp elt [⟨tg, iter, ifs, 0⟩] scope pos2] [] pos) (dSortSc it (own.map (·.2)) (turnE (own.map (·.2)) g t (emI d))) := fun F ps σ G H A Q env I R P =>
  PE.go (pe_callB (cr_sortedSet hc) hg0 hm (by decide +kernel) (pa_cons pe_run pa_nil hse) (by decide) (by decide) hse hpl) (PE.go (pe_si hc hN pi_run ok (fun s H C cl fp => ⟨fun pins s' σ H' v u Q J r h => (h s H C cl fp).r pins s' u J r⟩) (fun s H C cl fp => ⟨fun pins s' σ H' Q J h => (h s H C cl fp).r pins s' J⟩) (fun s H C cl fp => ⟨fun pins s' σ H' Q J h => (h s H C cl fp).r pins s' J⟩) hs)
    (si_run hg ht he hi nd I R ((post_bind P).imp (fun u env' _ h Dn G' H' A' ads e s' I' R' ho => by
      subst e
      have h : (if ((usrt ads).map D.int).length < 64 then Rs.ok (T.lst ((usrt ads).map .int)) env' else .stuck).post (okE X F ps σ G Q) (exP X W F ps G) := h
      obtain ⟨u1, u2, u3⟩ := usrt_ok ads
      by_cases hz : ((usrt ads).map D.int).length < 64
      · rw [if_pos hz] at h
        refine ⟨Dn, _, _, rfl, ho, by rw [u3]; simpa using hz, fun ns q pw mem len hq => ?_⟩
        have e : ns = usrt ads := sortedI_uniq pw u1 fun k => by rw [mem, putZ_mem, u2]; simp
        subst e
        have R2 := R'.right
        exact (show okE X F ps σ G Q (.lst ((usrt ads).map .int)) env' from h) (.ref q) G' _ A' [q] s' (I'.up (Same.refl G') (upd_off (R2.ne hq))) (.lst upd_same (IsL.of_ints _)) (R2.mine hq)
      · rw [if_neg hz] at h; exact h.elim) fun _ _ _ _ h => h)))
end
end Dn

namespace Dn
open PySem PySem.Spec PyProof.Rows L2
/-! ### the head's Hook with properties and facts of our own -/
/-- a property of a class: its name and its getter -/
structure PrD where
  C : Str
  f : Str
  d : He.DefD
/-- the property, its getter -/
def prP (K : PySem.W.Frag) (C f : Str) : Addr := match PySem.W.findIn K (.ref (He.ga K C)) f with
  | some (some (.ref p)) => p
  | _ => 0
def prG (K : PySem.W.Frag) (C f : Str) : Addr := match PySem.W.recIn K (prP K C f) "property" with
  | some (.ref g :: _) => g
  | _ => 0
def fnA (K : PySem.W.Frag) (a : Addr) : He.FnW := match K.lookup a with
  | some ⟨_, _, .func fd, _⟩ => some (fd.name, fd.qualname, fd.params, fd.body, fd.scope, fd.globals, fd.closure, fd.builtins)
  | _ => none
def okH (K : PySem.W.Frag) (d : He.DefD) (a : Addr) : Bool := PySem.W.keepIn K (.ref a) && (match K.lookup a with
  | some ⟨_, _, .func fd, _⟩ => PySem.W.codeIn K fd.code d.qual && (He.dflB K fd.defaults (d.dvs K) && He.kwdB K fd.kwdefaults (d.kws K))
  | _ => false)
theorem funA {K : PySem.W.Frag} {d : He.DefD} {a : Addr} (e : fnA K a = d.val) (c : okH K d a = true) : ∃ fd, FunD K d.name d.qual d.params d.body d.scope (d.dvs K) (d.kws K) a fd := by
  obtain ⟨kp, c2⟩ := He.ba c
  unfold fnA at e
  cases q : K.lookup a with
  | none => rw [q] at c2; cases c2
  | some o =>
    obtain ⟨oc, od, dt, osl⟩ := o
    rw [q] at c2 e
    cases dt with
    | func fd =>
      obtain ⟨n1, n2, n3, n4, n5, n6, n7, n8, n9, n10, n11, n12, n13, n14, n15⟩ := fd
      have e2 : (some (n1, n2, n3, n4, n5, n6, n7, n15) : He.FnW) = some (d.name, d.qual, d.params, .stmts d.body, d.scope, mainGlobals, [], builtinsNs) := e
      simp only [Option.some.injEq, Prod.mk.injEq] at e2
      obtain ⟨rfl, rfl, rfl, rfl, rfl, rfl, rfl, rfl⟩ := e2
      obtain ⟨k1, k2⟩ := He.ba c2
      obtain ⟨k3, k4⟩ := He.ba k2
      exact ⟨_, ⟨oc, od, n8, n9, n10, n11, n12, n13, n14, osl, rfl, q, k1, He.dflB_ok k3, He.kwdB_ok k4⟩, kp⟩
    | _ => cases c2
def PrD.ok (K : PySem.W.Frag) (p : PrD) : Bool :=
  He.eqO (PySem.W.findIn K (.ref (He.ga K p.C)) p.f) (some (some (.ref (prP K p.C p.f)))) && (He.eqO (PySem.W.specialIn K (.ref (prP K p.C p.f)) "__get__") (some (some (.builtin "property.__get__"))) &&
    (decide (PySem.W.takesIn K (.ref (prP K p.C p.f)) = some true) && ((match PySem.W.recIn K (prP K p.C p.f) "property" with
      | some (.ref _ :: _) => true
      | _ => false) && okH K p.d (prG K p.C p.f))))
theorem PrD.prop {K : PySem.W.Frag} {p : PrD} (c : p.ok K = true) (e : fnA K (prG K p.C p.f) = p.d.val) : PropOf K (He.ga K p.C) p.f (prP K p.C p.f) (prG K p.C p.f) ∧ ∃ fd, FunD K p.d.name p.d.qual p.d.params p.d.body p.d.scope (p.d.dvs K) (p.d.kws K) (prG K p.C p.f) fd := by
  obtain ⟨c1, c2⟩ := He.ba c
  obtain ⟨c3, c4⟩ := He.ba c2
  obtain ⟨c5, c6⟩ := He.ba c4
  obtain ⟨c7, c8⟩ := He.ba c6
  refine ⟨⟨He.eqO_ok c1, He.eqO_ok c3, of_decide_eq_true c5, ?_⟩, funA e c8⟩
  unfold prG
  cases q : PySem.W.recIn K (prP K p.C p.f) "property" with
  | none => rw [q] at c7; cases c7
  | some l =>
    cases l with
    | nil => rw [q] at c7; cases c7
    | cons v r =>
      cases v with
      | ref g => exact ⟨r, rfl⟩
      | _ => rw [q] at c7; cases c7
abbrev AlX : Type := (Bool × List He.FnW) × He.AlD
def obsX (qs : List (PySem.W.Frag → Bool)) (pr : List PrD) (fa : List He.Fa) (fn : List He.DefD) (K : PySem.W.Frag) : AlX :=
  (((qs.all fun q => q K) && pr.all fun p => p.ok K, pr.map fun p => fnA K (prG K p.C p.f)), He.obsD fa fn K)
def valX (pr : List PrD) (fn : List He.DefD) : AlX := ((true, pr.map fun p => p.d.val), He.valD fn)
def SaysX (qs : List (PySem.W.Frag → Bool)) (pr : List PrD) (fa : List He.Fa) (fn : List He.DefD) (K : PySem.W.Frag) : Prop := obsX qs pr fa fn K = valX pr fn
def obsXG (n : Nat) (qs : List (PySem.W.Frag → Bool)) (pr : List PrD) (fa : List He.Fa) (fn : List He.DefD) (g : Addr → Option Obj) : AlX := obsX qs pr fa fn (He.frG g (He.asD g n))
def hookX (n : Nat) (qs : List (PySem.W.Frag → Bool)) (pr : List PrD) (fa : List He.Fa) (fn : List He.DefD) : PySem.W.Hook where
  α := AlX
  obs := fun s => obsXG n qs pr fa fn s.heap.get?
  val := fun _ => valX pr fn
  says := fun _ h => ∃ K : PySem.W.Frag, K.In h ∧ SaysX qs pr fa fn K
  of := fun _ _ e => ⟨_, He.frG_in, e⟩
  keeps := fun _ _ _ ⟨K, hK, c⟩ k => ⟨K, PySem.W.Frag.In.keeps hK k, c⟩
theorem obsXG_eq {n : Nat} {qs : List (PySem.W.Frag → Bool)} {pr : List PrD} {fa : List He.Fa} {fn : List He.DefD} {g : Addr → Option Obj} {s : Shared} (h : ∀ a, g a = s.heap.get? a) : obsXG n qs pr fa fn g = (hookX n qs pr fa fn).obs s := by
  have e : g = s.heap.get? := funext h
  rw [e]; rfl
section
variable {qs : List (PySem.W.Frag → Bool)} {pr : List PrD} {fa : List He.Fa} {fn : List He.DefD} {K : PySem.W.Frag}
theorem SaysX.says (c : SaysX qs pr fa fn K) : He.SaysD fa fn K := congrArg (fun z : AlX => z.2) c
theorem SaysX.q (c : SaysX qs pr fa fn K) (i : Nat) {q : PySem.W.Frag → Bool} (h : qs[i]? = some q) : q K = true := by
  have c1 := (He.ba (show ((qs.all fun q => q K) && pr.all fun p => p.ok K) = true from congrArg (fun z : AlX => z.1.1) c)).1
  exact List.all_eq_true.mp c1 q (List.mem_of_getElem? h)
theorem SaysX.prop (c : SaysX qs pr fa fn K) (i : Nat) {p : PrD} (h : pr[i]? = some p) : PropOf K (He.ga K p.C) p.f (prP K p.C p.f) (prG K p.C p.f) ∧ ∃ fd, FunD K p.d.name p.d.qual p.d.params p.d.body p.d.scope (p.d.dvs K) (p.d.kws K) (prG K p.C p.f) fd := by
  have c2 := (He.ba (show ((qs.all fun q => q K) && pr.all fun p => p.ok K) = true from congrArg (fun z : AlX => z.1.1) c)).2
  have e : pr.map (fun p => fnA K (prG K p.C p.f)) = pr.map fun p => p.d.val := congrArg (fun z : AlX => z.1.2) c
  have e2 : (pr.map fun p => fnA K (prG K p.C p.f))[i]? = (pr.map fun p => p.d.val)[i]? := by rw [e]
  rw [List.getElem?_map, List.getElem?_map, h] at e2
  exact PrD.prop (List.all_eq_true.mp c2 p (List.mem_of_getElem? h)) (Option.some.inj e2)
end

/-- the table of the program: what its top has left -/
structure Tb (fa : List He.Fa) (fn : List He.DefD) (K : PySem.W.Frag) (mg : Str → Option Value) (h : Heap) : Prop where
  c : He.SaysD fa fn K
  X : K.In h
  G : h.Ns mainGlobals mg
structure TbX (qs : List (PySem.W.Frag → Bool)) (pr : List PrD) (fa : List He.Fa) (fn : List He.DefD) (K : PySem.W.Frag) (mg : Str → Option Value) (h : Heap) : Prop where
  c : SaysX qs pr fa fn K
  X : K.In h
  G : h.Ns mainGlobals mg
section
variable {P : Program} {w : World} {K : PySem.W.Frag} {mg : Str → Option Value} {base h : Heap} {A : Addr} {m x C : Str} {k : Nat} {ps : List Str} {sp : Sp} {fa : List He.Fa} {fn : List He.DefD} {d : He.DefD} {pr : List PrD} {qs : List (PySem.W.Frag → Bool)}
theorem TbX.tb (T : TbX qs pr fa fn K mg h) : Tb fa fn K mg h := ⟨T.c.says, T.X, T.G⟩
theorem Tb.glo (T : Tb fa fn K mg h) (x : Str) (i : Nat) (e : fa[i]? = some (.glo x)) : mg x = some (.ref (He.ga K x)) := He.glo_ok T.X T.G (T.c.fact i e)
theorem Tb.free (T : Tb fa fn K mg h) (x : Str) (i : Nat) (e : fa[i]? = some (.free x)) : mg x = none := He.free_ok T.X T.G (T.c.fact i e)
theorem Tb.int (T : Tb fa fn K mg h) (x : Str) (n : Int) (i : Nat) (e : fa[i]? = some (.int x n)) : ∃ t, mg x = some (.int n t) := He.int_ok T.X T.G (T.c.fact i e)
theorem Tb.str (T : Tb fa fn K mg h) (x z : Str) (i : Nat) (e : fa[i]? = some (.str x z)) : ∃ t, mg x = some (.str z t) := He.str_ok T.X T.G (T.c.fact i e)
abbrev BindsAll (d : He.DefD) (ps : List Str) : Prop := ∀ (kV doc pm : Value) (an : Option Addr) (cdv ct : Value) (us : List Value), us.length = ps.length → bindArgs (PySem.W.fnOf d.name d.qual d.params d.body d.scope .none kV doc pm an cdv ct) ⟨us, []⟩ = pure (ps.zip us)
theorem callee_of {f : Addr} (FD : ∃ fd, FunD K d.name d.qual d.params d.body d.scope (d.dvs K) (d.kws K) f fd) (hd : d.dfl = []) (hk : d.kwd = []) (hb : BindsAll d ps)
    (ok : ∀ fd, FunD K d.name d.qual d.params d.body d.scope [] [] f fd → FnG P w K mg base (L2.CX P w) k f fd ps sp) : Callee P w K mg base f k ps [] sp := by
  obtain ⟨fd, FD⟩ := FD
  have e2 : d.dvs K = [] := by unfold He.DefD.dvs; rw [hd]; rfl
  have e3 : d.kws K = [] := by unfold He.DefD.kws; rw [hk]; rfl
  rw [e2, e3] at FD
  obtain ⟨oc, od, dV, kV, doc, pm, an, cdv, ct, osl, h1, h2, _, h4, _⟩ := id FD.ex
  obtain rfl : dV = .none := h4.elim (fun z => z.2) fun z => absurd rfl z.1
  exact ⟨fd, [], ok fd FD, h1 ▸ .all (hb kV doc pm an cdv ct), .nil, _, _, _, h2⟩
/-- a def without defaults -/
theorem def1 (T : Tb fa fn K mg h) (m : mg x = some (.ref (He.ga K x))) (i : Nat) (e : fn[i]? = some d) (hx : d.at_ = (x, none)) (hd : d.dfl = []) (hk : d.kwd = []) (hb : BindsAll d ps)
    (ok : ∀ fd, FunD K d.name d.qual d.params d.body d.scope [] [] (He.ga K x) fd → FnG P w K mg base (L2.CX P w) k (He.ga K x) fd ps sp) : Def1 P w K mg base x k ps [] sp := by
  have FD := T.c.def_ i e
  have e1 : He.fAd K d.at_ = He.ga K x := by rw [hx]; rfl
  rw [e1] at FD
  obtain ⟨fd, FD'⟩ := id FD
  exact ⟨m, FD'.kp, callee_of FD hd hk hb ok⟩
/-- a def with defaults: n values are written, the defaults behind the first j fill up -/
theorem def2 {dv : List V} (T : Tb fa fn K mg h) (m : mg x = some (.ref (He.ga K x))) (i : Nat) (e : fn[i]? = some d) (hx : d.at_ = (x, none)) (hd : d.dvs K = dv) (hk : d.kwd = [])
    (n j : Nat) (hne : dv ≠ []) (hn : n + (dv.length - j) = ps.length)
    (hb : ∀ (T : Addr) (kV doc pm : Value) (an : Option Addr) (cdv ct : Value) (us its : List Value), us.length = n → its.length = dv.length →
      ∃ k, bindArgs (PySem.W.fnOf d.name d.qual d.params d.body d.scope (.ref T) kV doc pm an cdv ct) ⟨us, []⟩ = seqItems? (.ref T) >>= k ∧ k (some its.toArray) = pure (ps.zip (us ++ its.drop j)))
    (ok : ∀ fd, FunD K d.name d.qual d.params d.body d.scope dv [] (He.ga K x) fd → FnG P w K mg base (L2.CX P w) k (He.ga K x) fd ps sp) : Def1 P w K mg base x k ps (dv.drop j) sp := by
  obtain ⟨fd, FD⟩ := T.c.def_ i e
  have e1 : He.fAd K d.at_ = He.ga K x := by rw [hx]; rfl
  have e3 : d.kws K = [] := by unfold He.DefD.kws; rw [hk]; rfl
  rw [e1, hd, e3] at FD
  obtain ⟨ds, vd, bd⟩ := FD.binds1 (ps := ps) n j hne hn hb
  obtain ⟨oc, od, dV, kV, doc, pm, an, cdv, ct, osl, h1, h2, _⟩ := id FD.ex
  exact ⟨m, FD.kp, fd, ds, ok fd FD, bd, vd, _, _, _, h2⟩
/-- a method without defaults -/
theorem defm (T : Tb fa fn K mg h) (cl : Cls K (He.ga K C)) (mt : Meth K (He.ga K C) m (He.ma K (He.ga K C) m)) (i : Nat) (e : fn[i]? = some d) (hx : d.at_ = (C, some m)) (hd : d.dfl = []) (hk : d.kwd = []) (hb : BindsAll d ps)
    (ok : ∀ fd, FunD K d.name d.qual d.params d.body d.scope [] [] (He.ma K (He.ga K C) m) fd → FnG P w K mg base (L2.CX P w) k (He.ma K (He.ga K C) m) fd ps sp) : DefM P w K mg base C m k ps [] sp := by
  have FD := T.c.def_ i e
  have e1 : He.fAd K d.at_ = He.ma K (He.ga K C) m := by rw [hx]; rfl
  rw [e1] at FD
  exact ⟨cl, mt, callee_of FD hd hk hb ok⟩
theorem defm2 {dv : List V} (T : Tb fa fn K mg h) (cl : Cls K (He.ga K C)) (mt : Meth K (He.ga K C) m (He.ma K (He.ga K C) m)) (i : Nat) (e : fn[i]? = some d) (hx : d.at_ = (C, some m)) (hd : d.dvs K = dv) (hk : d.kwd = [])
    (n j : Nat) (hne : dv ≠ []) (hn : n + (dv.length - j) = ps.length)
    (hb : ∀ (T : Addr) (kV doc pm : Value) (an : Option Addr) (cdv ct : Value) (us its : List Value), us.length = n → its.length = dv.length →
      ∃ k, bindArgs (PySem.W.fnOf d.name d.qual d.params d.body d.scope (.ref T) kV doc pm an cdv ct) ⟨us, []⟩ = seqItems? (.ref T) >>= k ∧ k (some its.toArray) = pure (ps.zip (us ++ its.drop j)))
    (ok : ∀ fd, FunD K d.name d.qual d.params d.body d.scope dv [] (He.ma K (He.ga K C) m) fd → FnG P w K mg base (L2.CX P w) k (He.ma K (He.ga K C) m) fd ps sp) : DefM P w K mg base C m k ps (dv.drop j) sp := by
  obtain ⟨fd, FD⟩ := T.c.def_ i e
  have e1 : He.fAd K d.at_ = He.ma K (He.ga K C) m := by rw [hx]; rfl
  have e3 : d.kws K = [] := by unfold He.DefD.kws; rw [hk]; rfl
  rw [e1, hd, e3] at FD
  obtain ⟨ds, vd, bd⟩ := FD.binds1 (ps := ps) n j hne hn hb
  obtain ⟨oc, od, dV, kV, doc, pm, an, cdv, ct, osl, h1, h2, _⟩ := id FD.ex
  exact ⟨cl, mt, fd, ds, ok fd FD, bd, vd, _, _, _, h2⟩
theorem defi (T : Tb fa fn K mg h) (g : mg C = some (.ref (He.ga K C))) (mk : Mk K (He.ga K C) (He.ma K (He.ga K C) "__init__")) (i : Nat) (e : fn[i]? = some d) (hx : d.at_ = (C, some ("__init__" : Str))) (hd : d.dfl = []) (hk : d.kwd = []) (hb : BindsAll d ps)
    (ok : ∀ fd, FunD K d.name d.qual d.params d.body d.scope [] [] (He.ma K (He.ga K C) "__init__") fd → FnG P w K mg base (L2.CX P w) k (He.ma K (He.ga K C) "__init__") fd ps sp) : DefI P w K mg base C k ps [] sp := by
  have FD := T.c.def_ i e
  have e1 : He.fAd K d.at_ = He.ma K (He.ga K C) "__init__" := by rw [hx]; rfl
  rw [e1] at FD
  exact ⟨g, mk, callee_of FD hd hk hb ok⟩
theorem defp {p : PrD} (T : TbX qs pr fa fn K mg h) (cl : Cls K (He.ga K p.C)) (i : Nat) (e : pr[i]? = some p) (hd : p.d.dfl = []) (hk : p.d.kwd = []) (hb : BindsAll p.d ps)
    (ok : ∀ f fd, FunD K p.d.name p.d.qual p.d.params p.d.body p.d.scope [] [] f fd → FnG P w K mg base (L2.CX P w) k f fd ps sp) : DefP P w K mg base p.C p.f k ps sp := by
  obtain ⟨h1, h2⟩ := T.c.prop i e
  exact ⟨cl, _, _, h1, callee_of h2 hd hk hb (ok _)⟩
end
/-! the law's own entry -/
theorem law_g {P : Program} {w : World} {K : PySem.W.Frag} {mg mb : Str → Option Value} {CX : CXT} {k : Nat} {fa a : Addr} {fd : FuncData} {x : Str} {sp : Sp} {s₁ : Shared} {vs : List Value} {ns : List Int}
    (KX : K.In s₁.heap) (hns : s₁.heap.Ns mainGlobals mg) (hb : s₁.heap.Ns builtinsNs mb) (hbb : ∀ x : Str, x ≠ "__name__" → mb x = bootBuiltins x) (hlim : s₁.heap.NoLimit) (hg : s₁.gens = #[])
    (ha : s₁.heap.get? a = some { cls := .type "list", data := .seq vs.toArray }) (hi : IntsAre vs ns) (hl : ns.length ≤ sizeLine) (hr : Room k callerA)
    (F : ∀ base : Heap, K.In base → base.Ns mainGlobals mg → FnG P w K mg base CX k fa fd [x] sp) (hbind : ∀ (s : Shared) (u : Value), BindsTo s fd ⟨[u], []⟩ [(x, u)])
    (hsp : ∀ H : Hp, Only H → SqL K H a (ns.map V.int) → sp [.ref a] H (fun v _ => v = .bl true) fun _ _ _ => False)
    (hCX : ∀ H e s', CX [] H s₁ (fun _ _ _ => False) e s' → False) :
    codeAny (model P w) callerA (.call (.ref fa) ⟨[.ref a], []⟩) (fun r s' => r = .ok (.ret (.bool true)) ∧ OldK s₁.heap s'.heap ∧ s'.os = s₁.os ∧ AllBare s'.gens) s₁ := by
  let scr : HO := .frz { cls := .type "list", data := .seq vs.toArray } (.lst (ns.map V.int))
  -- the heap in which the script alone is known, if it is none of the module's own
  obtain ⟨H, hH, hS⟩ : ∃ H : Hp, (∀ b, H b = none ∨ (b = a ∧ K.lookup a = none ∧ H b = some scr)) ∧ SqL K H a (ns.map V.int) := by
    cases hk : K.lookup a with
    | some o =>
      have e := KX a o hk
      rw [ha] at e
      cases e
      exact ⟨fun _ => none, fun _ => .inl rfl, .inr ⟨_, vs.toArray, _, hk, rfl, rfl, rfl, by rw [List.size_toArray, hi.length]; exact hl, by simpa using vals_ints hi⟩⟩
    | none =>
      refine ⟨upd (fun _ => none) a scr, fun b => ?_, .inl (.inr ⟨_, upd_same⟩)⟩
      by_cases e : b = a
      · exact .inr ⟨e, rfl, by rw [e]; exact upd_same⟩
      · exact .inl (upd_ne e)
  have hO : Only H := fun b => (hH b).imp id fun z => ⟨_, _, z.2.2⟩
  have hok : HOk P w H s₁.heap := fun b u z => by
    rcases hH b with q | ⟨rfl, _, q⟩
    · rw [q] at z; cases z
    · rw [q] at z; cases z
      exact ⟨ha, by rw [List.length_map]; exact hl, vs, _, vals_ints hi, ha⟩
  have base_of : ∀ {b : Addr} {o : Obj}, s₁.heap.get? b = some o → H b = none → (hidT s₁.heap H).get? b = some o := fun e n => hidT_get e n
  have noA : ∀ {b : Addr} {o : Obj} {es : Array DictEntry} {ep : Nat}, s₁.heap.get? b = some o → o.data = .dict es ep → H b = none := fun {b o es ep} e d => by
    rcases hH b with q | ⟨rfl, _, _⟩
    · exact q
    · rw [ha] at e; cases e; cases d
  have nsK : ∀ {b : Addr} {m : Str → Option Value}, s₁.heap.Ns b m → (hidT s₁.heap H).Ns b m := fun z => let ⟨o, es, ep, e, d, r⟩ := z; ⟨o, es, ep, base_of e (noA e d), d, r⟩
  have hKb : K.In (hidT s₁.heap H) := fun b o e => base_of (KX b o e) (by
    rcases hH b with q | ⟨rfl, q, _⟩
    · exact q
    · rw [q] at e; cases e)
  have e0 : Env0 P w K mg (hidT s₁.heap H) callerA [] s₁ H :=
    ⟨rfl, ⟨hKb, nsK hns, ⟨mb, nsK hb, hbb⟩, (let ⟨mc, h1, h2⟩ := hlim; ⟨mc, nsK h1, h2⟩)⟩, fun b o e => of_hidT e, Nat.le_of_eq (hidT_size _ _), trivial, fun b hb => (by cases (show b ∈ ([] : List Addr) from hb)), hok, .of_eq hg⟩
  refine codeAny_mono ((F _ hKb (nsK hns)).run callerA [] s₁ H ⟨[.ref a], []⟩ [.ref a] [.ref a] _ _ hr rfl e0 (hbind s₁ (.ref a)) (.cons rfl .nil) (hsp H hO hS)) fun r s' h => ?_
  match r, h with
  | .error e, h => exact (hCX H e s' h).elim
  | .ok (.ret u), h =>
    obtain ⟨v, H', os, bare, un, hok', r', q⟩ := h
    obtain rfl : v = .bl true := q
    obtain rfl : u = Value.bool true := r'
    refine ⟨rfl, OldK.of_keep fun b o e => ?_, os, bare⟩
    rcases hH b with q | ⟨rfl, _, q⟩
    · exact un.keep b o e q (fun z => by cases (show b ∈ ([] : List Addr) from z)) (by simp)
    · obtain ⟨e2, _⟩ := hok' b _ (un.frzs b _ _ q)
      rw [ha] at e; cases e
      exact e2
theorem walk_g {l : PySem.W.OpenLaw} {n k : Nat} {q : Program} {loose : List Str} {XP : (Str → Option Value) → Heap → Prop} {YP : World → Heap → Prop} {d : DefRec} {CX : World → CXT} {x : Str}
    (hn : l.most = some n) (hn2 : n ≤ sizeLine) (hdf : d.params.defaults = []) (hr : Room k callerA)
    (F : ∀ (w : World) (mg : Str → Option Value) (fa : Addr) (h : Heap), YP w h → h.Ns mainGlobals mg → mg d.name = some (.ref fa) →
      ∃ (K : PySem.W.Frag) (fd : FuncData) (sp : Sp), K.In h ∧ (∀ (s : Shared) (u : Value), BindsTo s fd ⟨[u], []⟩ [(x, u)]) ∧
        (∀ (H : Hp) (a : Addr) (ns : List Int), ns.length ≤ n → Only H → SqL K H a (ns.map V.int) → sp [.ref a] H (fun v _ => v = .bl true) fun _ _ _ => False) ∧
        ∀ base : Heap, K.In base → base.Ns mainGlobals mg → FnG l.prog w K mg base (CX w) k fa fd [x] sp)
    (hCX : ∀ (w : World) (H : Hp) (s : Shared) (e : Value) (s' : Shared), CX w [] H s (fun _ _ _ => False) e s' → False) :
    PySem.W.WalkO q loose XP YP l.row.toRowW d [] (fun f vs => PySem.call f vs) :=
  Att.attach_call hn hdf fun w s₀ s₁ mg mb fa o pm cd doc a vs ns G Y ho hd hcd hmg hobj hints hlen hg =>
    let ⟨K, fd, sp, KX, hb, hsp, hF⟩ := F w mg fa _ Y G.T.g hmg
    law_g KX G.T.g G.T.b G.T.builtins G.T.nolimit hg hobj hints (Nat.le_trans hlen hn2) hr hF hb (fun H hO hS => hsp H a ns hlen hO hS) fun H e s' => hCX w H s₁ e s'

/-- the law's own entry: its function answers True -/
theorem spLaw_of {K : PySem.W.Frag} {H : Hp} {a : Addr} {ns : List Int} {Fn' : Fn} {back : List T} (h : SqL K H a (ns.map V.int)) (e : Fn' [.d (.scr ns)] = .ok (.d (.bool true)) back) : spF K [false] Fn' [.ref a] H (fun v _ => v = .bl true) fun _ _ _ => False := by
  refine ⟨[.d (.scr ns)], [], H, TIsL.cons (A := []) (.d (.scr ns h)) .nil, ⟨.inr rfl, trivial⟩, Same.refl H, .nil, (fun b hb => by cases hb), ?_⟩
  rw [e]
  intro v G' H' A' B r t tb
  cases t with
  | d t => exact t.boolE
theorem cx_false {P : Program} {w : World} (H : Hp) (s : Shared) (e : Value) (s' : Shared) (h : L2.CX P w [] H s (fun _ _ _ => False) e s') : False := by
  obtain ⟨_, _, _, _, _, _, _, _, _, _, _, _, hE⟩ := h
  exact hE
end Dn

namespace Dn
open PySem PySem.Spec PyProof.Rows L2
/-! ### argument lists without * -/
def plE : Expr → Bool
  | .Starred _ _ => false
  | _ => true
theorem sp {e : Expr} {es : List Expr} {env : Env} (h : plE e = true) : starEach (e :: es) env = (false, eval e env) :: starEach es env := by
  cases e <;> first | rfl | cases h
theorem sps {e : Expr} {es : List Expr} {env : Env} {p : Pos} (h : e = .Starred e p) : True := trivial
theorem bt {pos : Pos} {env : Env} : ∀ {es : List Expr}, es.all plE = true → (backTo pos (starEach es env)).any (·.1) = false
  | [], _ => rfl
  | e :: es, h => by
    obtain ⟨h1, h2⟩ := (Bool.and_eq_true _ _).mp (show (plE e && es.all plE) = true from h)
    rw [sp h1]
    show (false || (backTo pos (starEach es env)).any (·.1)) = false
    rw [bt h2]; rfl
theorem ap {e : Expr} {es : List Expr} {env : Env} (h : plE e = true) : (assignEach (e :: es) env).map (·.2) = assign e env :: (assignEach es env).map (·.2) := by
  cases e <;> first | rfl | cases h
/-! ### the blocks within a def -/
def atB (b : List Stmt) (i : Nat) : Stmt := b.getD i (.Pass ⟨0, 0, 0, 0⟩)
def foB : Stmt → List Stmt
  | .For _ _ b _ _ => b
  | _ => []
def whB : Stmt → List Stmt
  | .While _ b _ _ => b
  | _ => []
def ifB : Stmt → List Stmt
  | .If _ b _ _ => b
  | _ => []
def elB : Stmt → List Stmt
  | .If _ _ b _ => b
  | _ => []
/-- a name that is read -/
structure Nm (N : List Str) (sc : Scope) (i : Nat) (x : Str) : Prop where
  hN : N[i]? = some x
  hv : visB sc x = true
  hd : (x == ("__debug__" : Str)) = false
  hcd : (x == ("__classdict__" : Str)) = false
/-- a name that is written -/
structure Lc (N : List Str) (sc : Scope) (i : Nat) (x : Str) : Prop where
  hi : N[i]? = some x
  hx : locB sc x = true
section
variable {X : Cx} {W : WX} {e e2 e3 value : Expr} {es : List Expr} {x y m C : Str} {i j : Nat} {pos p p1 p2 px py pt apos cpos : Pos} {d d1 d2 : DE} {dv : Ev → Rs D} {kt k2 : Nat} {ws : List Nat} {k : Nat} {qs : List Str} {dvs : List V} {mask : List Bool} {Fn' : Fn} {pl : Sem Bool} {dr : Ev → Rs (List RA)}
theorem SE.varN (n : Nm X.N X.env.scope i x) : SE X W (.Name x pos) (dVar i) := SE.var n.1 n.2 n.3 n.4
theorem SV.pkN (n : Nm X.N X.env.scope i x) : SV X W (.Name x pos) (Dn.pk i) := SV.pk n.1 n.2 n.3 n.4
theorem SE.bpN {op : Operator} {o : D → D → Option T} (ho : OpV X (binaryOp op) o) (n : Nm X.N X.env.scope i x) (h2 : SV X W e2 dv) : SE X W (.BinOp (.Name x p2) op e2 pos) (dBp o i dv) := SE.bp ho n.1 n.2 n.3 n.4 h2
theorem SE.cmppN {op : CmpOp} {o : D → D → Option T} (ho : OpV X (compareOp op) o) (hm : behindInMarks op e2 = false) (n : Nm X.N X.env.scope i x) (h2 : SV X W e2 dv) : SE X W (.Compare (.Name x p2) [op] [e2] pos) (dBp o i dv) := SE.cmpp ho hm n.1 n.2 n.3 n.4 h2
theorem ST.cmppN {op : CmpOp} {o : D → D → Option T} (ho : OpV X (compareOp op) o) (hm : behindInMarks op e2 = false) (n : Nm X.N X.env.scope i x) (h2 : SV X W e2 dv) : ST X W (.Compare (.Name x p2) [op] [e2] pos) (aB (dBp o i dv)) := ST.cmpp ho hm n.1 n.2 n.3 n.4 h2
theorem SE.ixpN (hu : X.A.units + 64 < cLine) (hs : PlainIx e2) (n : Nm X.N X.env.scope i x) (h2 : SV X W e2 dv) : SE X W (.Subscript (.Name x p2) e2 pos) (dIxp i dv) := SE.ixp hu hs n.1 n.2 n.3 n.4 h2
theorem SPl.nameN (n : Nm X.N X.env.scope i x) : SPl X (.Name x pos) i [] := SPl.name n.1 n.2 n.3 n.4
theorem SR.oN (hs : starEach (.Name x p :: es) X.env = (false, eval (.Name x p) X.env) :: starEach es X.env) (n : Nm X.N X.env.scope i x) (t : SR X W es dr) : SR X W (.Name x p :: es) (rO i dr) := SR.o hs n.1 n.2 n.3 n.4 t
theorem SE.methON (tk : Takes X W) (hr : Room k X.A) (hgd : X.A.guards = some []) (D' : DefM X.prog X.w X.K X.mg X.base C m k qs dvs (spF X.K mask Fn')) (he : starEach (e :: es) X.env = (false, eval e X.env) :: starEach es X.env) (hpl : (backTo cpos (starEach es X.env)).any (·.1) = false)
    (ht : MethEq X (.Name x p) m apos cpos (e :: es) pl) (n : Nm X.N X.env.scope i x) (ha : SR X W (e :: es) dr) : SE X W (.Call (.Attribute (.Name x p) m apos) (e :: es) [] cpos) (dMethO C m mask Fn' dvs i dr) := SE.methO tk hr hgd D' he hpl ht n.1 n.2 n.3 n.4 ha
theorem SE.methO0N (tk : Takes X W) (hr : Room k X.A) (hgd : X.A.guards = some []) (D' : DefM X.prog X.w X.K X.mg X.base C m k qs dvs (spF X.K mask Fn'))
    (ht : MethEq X (.Name x p) m apos cpos [] pl) (n : Nm X.N X.env.scope i x) : SE X W (.Call (.Attribute (.Name x p) m apos) [] [] cpos) (dMethO C m mask Fn' dvs i rNil) := SE.methO0 tk hr hgd D' ht n.1 n.2 n.3 n.4
theorem SS.retNN (n : Nm X.N X.env.scope i x) : SS X W (.Return (some (.Name x p1)) pos) (dRetV i) := SS.retN n.1 n.2 n.3 n.4
theorem SQI.nameN (n : Nm X.N X.env.scope i x) : SQI X (.Name x pos) (dSlot i) := SQI.name n.1 n.2 n.3 n.4
theorem SS.setN (hN : X.N.Nodup) (l : Lc X.N X.env.scope i x) (hf : fnB X x = true) (hs : swapsWith e (some (.Name x p1)) pos.line X.env = pure false) (h : SE X W e d) : SS X W (.Assign [.Name x p1] e pos) (dSet i d) := SS.set hN l.1 l.2 hf hs h
theorem SG.nameN (hN : X.N.Nodup) (l : Lc X.N X.env.scope i x) (hf : fnB X x = true) : SG X (.Name x pos) (gNm i) := SG.name hN l.1 l.2 hf
theorem SGw.nameN (hN : X.N.Nodup) (l : Lc X.N X.env.scope i x) (hf : fnB X x = true) (hw : i ∈ ws) : SGw X ws (.Name x pos) (gNm i) := SGw.name hN l.1 l.2 hf hw
theorem SS.augAddN (hN : X.N.Nodup) (l : Lc X.N X.env.scope i x) (hf : fnB X x = true) (h : SE X W e d) : SS X W (.AugAssign (.Name x px) .Add e pos) (dAug i (fun a b => a + b) d) := SS.augAdd hN l.1 l.2 hf h
theorem SS.augSubN (hN : X.N.Nodup) (l : Lc X.N X.env.scope i x) (hf : fnB X x = true) (h : SE X W e d) : SS X W (.AugAssign (.Name x px) .Sub e pos) (dAug i (fun a b => a - b) d) := SS.augSub hN l.1 l.2 hf h
def dNoL : Ev → Rs (List D) := fun _ => .stuck
theorem SI.no {tg : Expr} : SI X W tg e dNoL := fun F ps σ G H A Q env I R P => P.elim
theorem swD_true {kx vx : Expr} {gs : List Comprehension} {scope : Scope} {pos py : Pos} {y : Str} {l : Nat} {env : Env} (hk : env.scope.kind = .function) (hy : env.scope.names.lookup y = some .local) (hl : (py.line == pos.line) = true)
    (ha : (scope.names.any fun (n, k) => n == y && (k == .local || k == .cell)) = false) : swapsWith (.DictComp kx vx gs scope pos) (some (.Name y py)) l env = pure true := by
  have ky : env.kindOf y = some .local := hy
  have hb : env.blockKind = .function := by unfold Env.blockKind; rw [hk]; rfl
  unfold swapsWith
  simp only [hb, ky, ha, Expr.pos, hl]
  rfl
/-- list(range(n)) -/
def dListRng (d : DE) : DE := fun env => (d env).bindD fun x env => match x with
  | .int n => if 0 ≤ n ∧ n ≤ 1000000 then .ok (.lst (rngL 0 n.toNat)) env else .stuck
  | _ => .stuck
theorem rg_isL {K : PySem.W.Frag} {G : Hp} (lo : Int) : ∀ n : Nat, IsL K G ((List.range n).map fun k : Nat => V.int (lo + k)) (rngL lo n)
  | 0 => .nil
  | n + 1 => by
    rw [List.range_succ_eq_map, List.map_cons, List.map_map]
    refine .cons (by simpa using Is.int lo) ?_
    have := rg_isL (K := K) (G := G) (lo + 1) n
    have e : ((List.range n).map fun k : Nat => V.int (lo + 1 + k)) = (List.range n).map ((fun k : Nat => V.int (lo + k)) ∘ Nat.succ) := by
      apply List.map_congr_left
      intro k _
      show V.int (lo + 1 + k) = V.int (lo + (k + 1 : Nat))
      congr 1; omega
    rw [← e]; exact this
theorem SE.listRng {p2 pos2 : Pos} (hc : X.calm = true) (hm : X.mg "list" = none) (hm2 : X.mg "range" = none) (hg : Gl X "list") (hg2 : Gl X "range") (hs : starEach [.Call (.Name "range" p2) [e] [] pos2] X.env = (false, eval (.Call (.Name "range" p2) [e] [] pos2) X.env) :: starEach [] X.env) (hs2 : starEach [e] X.env = (false, eval e X.env) :: starEach [] X.env) (h : SE X W e d) :
    SE X W (.Call (.Name "list" p) [.Call (.Name "range" p2) [e] [] pos2] [] pos) (dListRng d) := fun F ps σ G H A Q env I R P =>
  PE.go (pe_listRg hc hg hm (prg_1 hg2 hm2 pe_run hs2) hs) (h.seqD I R P fun x env1 v G1 H1 A1 s1 I1 i1 R1 P1 => by
    cases x with
    | int n =>
      have P1 : (if 0 ≤ n ∧ n ≤ 1000000 then Rs.ok (T.lst (rngL 0 n.toNat)) env1 else .stuck).post (okE X F ps σ G Q) (exP X W F ps G1) := P1
      by_cases hz : 0 ≤ n ∧ n ≤ 1000000
      · rw [if_pos hz] at P1
        refine ⟨n, i1.intE, RgOk.of_le (by omega) (by omega) (by omega) (by omega), fun q hq => ?_⟩
        have r := rg_isL (K := X.K) (G := G1) 0 n.toNat
        have e : rgV 0 n = (List.range n.toNat).map fun k : Nat => V.int (0 + k) := by unfold rgV; rw [Int.sub_zero]
        rw [e]
        exact (okO_of I1 R1 s1 P1).lst r R1 hq
      · rw [if_neg hz] at P1; exact P1.elim
    | _ => exact P1.elim)
/-! ### x in o as a test -/
theorem in_ownT {neg : Bool} {op : CmpOp} (hop : op = if neg = true then .NotIn else .In) (hr : Room k X.A) (hgd : X.A.guards = some []) (D' : DefM X.prog X.w X.K X.mg X.base C "__contains__" k qs [] (spF X.K [false, false] Fn')) (hm : behindInMarks op e2 = false)
    (h1 : SE X W e d) (h2 : SE X W e2 d2) : ST X W (.Compare e [op] [e2] pos) (aB (dInO C Fn' neg d d2)) := fun F ps σ G H A Q env I R P =>
  PT.go (pt_cmpR opr_run pe_run pe_run hm) (h1.seqD (f := fun x env => (d2 env).bindD fun y env => (if instC C y = true then (callQ Fn' 2 [] [y, x] env).bind (tB' neg) else .stuck).bind tB) (ok := okT X F ps σ G Q) I R (by
      unfold aB dInO at P
      rw [bindD_bind] at P
      have e : (fun x env => ((d2 env).bindD fun y env => if instC C y = true then (callQ Fn' 2 [] [y, x] env).bind (tB' neg) else .stuck).bind tB) = (fun x env => (d2 env).bindD fun y env => (if instC C y = true then (callQ Fn' 2 [] [y, x] env).bind (tB' neg) else .stuck).bind tB) := by
        funext x env; rw [bindD_bind]
      rw [← e]; exact P) fun x env1 v G1 H1 A1 s1 I1 i1 R1 P1 => h2.seqD I1 R1 P1 fun y env2 u G2 H2 A2 s2 I2 i2 R2 P2 => by
    by_cases hz : instC C y = true
    · rw [if_pos hz, bind_bind] at P2
      obtain ⟨t, et, P3⟩ := callQ_bind P2
      cases t with
      | d z =>
        cases z with
        | bool b =>
          obtain ⟨a, dx, fs, rfl, ha⟩ := instC_is i2 hz
          rw [hop]
          have P3 : okT X F ps σ G Q (xor neg b) env2 := P3
          refine op_own hr hgd D' hz I2 R2 (i1.up s2) i2 et fun v' G' H' B s' k' t' r' => ?_
          cases t' with
          | d t' => cases t'; exact ⟨_, rfl, P3 G' H' A2 ((s1.trans s2).trans s') (I2.up s' k') r'⟩
        | _ => exact P3.elim
      | _ => exact P3.elim
    · rw [if_neg hz] at P2; exact P2.elim)
theorem ST.inO (hr : Room k X.A) (hgd : X.A.guards = some []) (D' : DefM X.prog X.w X.K X.mg X.base C "__contains__" k qs [] (spF X.K [false, false] Fn')) (hm : behindInMarks .In e2 = false)
    (h1 : SE X W e d) (h2 : SE X W e2 d2) : ST X W (.Compare e [.In] [e2] pos) (aB (dInO C Fn' false d d2)) := in_ownT (neg := false) rfl hr hgd D' hm h1 h2
theorem ST.notInO (hr : Room k X.A) (hgd : X.A.guards = some []) (D' : DefM X.prog X.w X.K X.mg X.base C "__contains__" k qs [] (spF X.K [false, false] Fn')) (hm : behindInMarks .NotIn e2 = false)
    (h1 : SE X W e d) (h2 : SE X W e2 d2) : ST X W (.Compare e [.NotIn] [e2] pos) (aB (dInO C Fn' true d d2)) := in_ownT (neg := true) rfl hr hgd D' hm h1 h2
end
end Dn

namespace Dn
open PySem PySem.Spec PyProof.Rows L2
/-! ### list(o.values()) -/
def tListVals (td : TE) : TE := fun σ H Q => td σ H fun x H1 => ∃ a kvs, x = V.ref a ∧ Rd H1 a (.dK kvs) ∧ ∀ p, H1 p = none → Q (.ref p) (upd H1 p (.lst (kvs.map (·.2))))
theorem vals_of {κ : Type} {kvs : List (κ × V)} {vs : List (κ × Value)} (r : KV kvs vs) : ∀ {us : List Value}, us.length = vs.length → (∀ (j : Nat) (v : Value), us[j]? = some v → ∃ k, vs[j]? = some (k, v)) → Vals (kvs.map (·.2)) us := by
  unfold KV at r
  induction r with
  | nil =>
    intro us hl h
    cases us with
    | nil => exact .nil
    | cons _ _ => simp at hl
  | @cons a b as bs r t ih =>
    intro us hl h
    cases us with
    | nil => simp at hl
    | cons u us =>
      obtain ⟨k, e⟩ := h 0 u rfl
      have e' : b = (k, u) := by simpa using e
      subst e'
      refine .cons r.2 (ih (by simpa using hl) fun j v e => ?_)
      obtain ⟨k, e2⟩ := h (j + 1) v (by simpa using e)
      exact ⟨k, by simpa using e2⟩
section
variable {X : Cx} {W : WX} {o e : Expr} {p pos apos mpos cpos : Pos} {td : TE} {d d2 : DE}
theorem pe_listVals (hc : X.calm = true) (hg : Gl X "list") (hm : X.mg "list" = none) (hd : PE X o td) (hbase : attributeBase o "values" X.env (eval o X.env) = eval o X.env) (hline : (apos.endLine == mpos.line) = true)
    (hse : starEach [Expr.Call (.Attribute o "values" apos) [] [] mpos] X.env = [(false, eval (Expr.Call (.Attribute o "values" apos) [] [] mpos) X.env)]) :
    PE X (.Call (.Name "list" p) [.Call (.Attribute o "values" apos) [] [] mpos] [] pos) (tListVals td) := by
  refine ⟨fun pins s σ H Q I h => ?_⟩
  refine wpAny_Call_Name_kw (ld_blt I hg hm (u := .type "list") (by first | rfl | decide +kernel) ?_ (by first | decide +kernel | decide) (by first | decide +kernel | decide))
  rw [hse]
  refine PySem.callWith_type1 (wpAny_Call_method0_late hbase hline (thn (hd.run pins s σ H _ I h) fun v s1 ⟨x, H1, I1, r1, a, kvs, ex, ha, q⟩ => ?_))
  subst ex
  obtain rfl : v = Value.ref a := r1
  obtain ⟨z, hsys, vs, rel, dof⟩ := dk_rd I1.hok ha
  obtain ⟨ep, dat⟩ := dof.dictAt
  have dat' := dat
  obtain ⟨ob, es, ho, ex, hdat, hko, hpr, hnd⟩ := dat'
  refine ⟨"dict", "dict.values", F.plainAttrs_dict, F.slot_dict_values, F.type_dict_values, ⟨ob, ho, ex.1⟩, fun b e => ?_, Calls.callWith_builtin rfl (PySem.evalArgs_none ?_)⟩
  · cases e
    exact ⟨ob, ho, ex.2.1⟩
  refine call_meetsIn F.slot_dict_values ⟨ob, ho, ex.1⟩ F.entry_dict_values (F.args_dict_values_1 _) (meets_dict_values (mixKind X.prog X.w) a hsys) ⟨⟨vs, dof⟩, ?_⟩
  have k1 : ∀ b u, s1.heap.get? b = some u → (s1.heap.push { cls := .type "dict_values", data := .fields #[.ref a] }).get? b = some u := fun b u e => Heap.get?_push_of_some _ e
  have dat1 : (s1.heap.push { cls := .type "dict_values", data := .fields #[.ref a] }).DictAt (mixKind X.prog X.w) a vs ep := dat.keep k1
  refine PySem.W.kdl_call (PySem.W.kdl_values (knd := mixKind X.prog X.w) (kvs := vs) (ep := ep) (r := s1.heap.objs.size) (d := a)) (I1.ok.hd hc) ⟨⟨_, Heap.get?_push_size _ rfl, rfl, rfl⟩, dat1⟩ (by rw [← rel.length]; exact z) fun h' tk acc c' hk hD hacc => ?_
  have I2 : Inv X pins σ H1 { s1 with heap := s1.heap.push { cls := .type "dict_values", data := .fields #[.ref a] } } := I1.kept (t' := s1.toks) fun b ob q => Heap.get?_push_of_some _ q
  have hv : Vals (kvs.map (·.2)) acc.toList := vals_of rel (by rw [Array.length_toList]; exact hacc.1) fun j v e => hacc.2 j v (by rw [← Array.getElem?_toList]; exact e)
  refine ⟨.ref (s1.heap.push { cls := .type "dict_values", data := .fields #[.ref a] }).objs.size, upd H1 (s1.heap.push { cls := .type "dict_values", data := .fields #[.ref a] }).objs.size (.lst (kvs.map (·.2))), I2.laid (t' := tk) hk (Nat.le_refl _)
    (show ObjOk X.prog X.w _ _ _ (.lst (kvs.map (·.2))) from ⟨by rw [List.length_map]; exact z, acc.toList, c', hv, by rw [Array.toArray_toList]; exact hD⟩), rfl, q _ (I2.hok.fresh (Nat.le_refl _))⟩
def dListVals (d : DE) : DE := fun env => (d env).bindD fun x env => match x with
  | .dict _ ds => .ok (.lst ds) env
  | _ => .stuck
theorem SE.listVals (hc : X.calm = true) (hm : X.mg "list" = none) (hg : Gl X "list") (hbase : attributeBase o "values" X.env (eval o X.env) = eval o X.env) (hline : (apos.endLine == mpos.line) = true)
    (hse : starEach [Expr.Call (.Attribute o "values" apos) [] [] mpos] X.env = [(false, eval (Expr.Call (.Attribute o "values" apos) [] [] mpos) X.env)]) (h : SE X W o d) :
    SE X W (.Call (.Name "list" p) [.Call (.Attribute o "values" apos) [] [] mpos] [] pos) (dListVals d) := fun F ps σ G H A Q env I R P =>
  PE.go (pe_listVals hc hg hm pe_run hbase hline hse) (h.seqD I R P fun x env1 v G1 H1 A1 s1 I1 i1 R1 P1 => by
    cases x with
    | dict ks ds =>
      obtain ⟨a, od, kv, rfl, ha, hk, r⟩ := i1.dictE
      exact ⟨a, kv, rfl, .inr ⟨od, R1.gh _ _ ha⟩, fun q hq => (okO_of I1 R1 s1 P1).lst r R1 hq⟩
    | _ => exact P1.elim)
/-! ### dict(pairs), dict(d) -/
def kpairs : List D → Option (List (Key × D))
  | [] => some []
  | .tup [k, v] :: r => (keyD k).bind fun j => (kpairs r).map ((j, v) :: ·)
  | _ => none
def oDict : D → Option T
  | .list ds => (kpairs ds).map dictOf
  | .dict ks ds => some (.dict ks ds)
  | _ => none
theorem pairs_is {F : Fm} {A : List Addr} {G H : Hp} (R : Rel F G H A) : ∀ {ds : List D} {xs : List V} {ks : List (Key × D)}, IsL X.K G xs ds → kpairs ds = some ks →
    ∃ (ps : List Addr) (kvs : List (Key × V)), xs = ps.map V.ref ∧ Paired (fun p kv => SqT X.K H p [kV kv.1, kv.2]) ps kvs ∧ kvs.map (·.1) = ks.map (·.1) ∧ IsL X.K G (kvs.map (·.2)) (ks.map (·.2))
  | [], _, ks, h, e => by cases h; cases e; exact ⟨[], [], rfl, .nil, rfl, .nil⟩
  | x :: ds, _, ks, h, e => by
    cases h with
    | cons h t =>
      cases x with
      | tup es =>
        match es, e with
        | [], e => cases e
        | [_], e => cases e
        | _ :: _ :: _ :: _, e => cases e
        | [k, v], e =>
          obtain ⟨j, e1, e2⟩ := Option.bind_eq_some_iff.mp (show (keyD k).bind (fun j => (kpairs ds).map ((j, v) :: ·)) = some ks from e)
          obtain ⟨ks', e3, rfl⟩ := Option.map_eq_some_iff.mp e2
          obtain ⟨ps, kvs, rfl, q2, q3, q4⟩ := pairs_is R t e3
          obtain ⟨a, ys, rfl, ha, r⟩ := h.tupE
          cases r with
          | cons r1 r =>
            cases r with
            | cons r2 r =>
              cases r
              have ek := keyD_vw (r1.vw R.gh) e1
              subst ek
              exact ⟨a :: ps, (j, _) :: kvs, rfl, .cons (SqT.of (R.gh _ _ ha)) q2, congrArg (j :: ·) q3, .cons r2 q4⟩
      | _ => cases e
theorem OkO.dict {F : Fm} {G H : Hp} {A : List Addr} {Q : VK} {kv : List (Key × V)} {ks : List Key} {ds : List D} {p : Addr} (k : OkO X F G H A Q (.dict ks ds)) (hk : kv.map (·.1) = ks) (h : IsL X.K G (kv.map (·.2)) ds) (R : Rel F G H A) (hp : H p = none) : Q (.ref p) (upd H p (.dK kv)) :=
  k _ G _ [p] (Same.refl G) (upd_off (R.ne hp)) (.dict upd_same hk h) (R.mine hp)
theorem cv_dict (hc : X.calm = true) : CallV1 X (.type "dict") oDict := fun F A G H v x t Q R h e k => by
  cases x with
  | list ds =>
    obtain ⟨ks, e1, rfl⟩ := Option.map_eq_some_iff.mp (show (kpairs ds).map dictOf = some t from e)
    obtain ⟨a, xs, rfl, ha, r⟩ := h.list _ rfl
    obtain ⟨ps, kvs, rfl, q2, q3, q4⟩ := pairs_is R r e1
    refine CallR.go (call_dictP hc) ⟨a, ps, kvs, rfl, SqL.of ha, q2, fun p hp => ?_⟩
    obtain ⟨z1, z2⟩ := putAll_is (kv0 := []) (ds0 := []) q3 q4 .nil
    exact k.dict z1 z2 R hp
  | dict ks ds =>
    cases e
    obtain ⟨a, kv, rfl, ha, hk, r⟩ := h.dict _ _ rfl
    exact CallR.go call_dictD ⟨a, kv, rfl, ha, fun p hp => k.dict hk r R hp⟩
  | _ => cases e
/-! ### d.get(k), d.get(k, x) -/
def getE' (ks : List Key) (ds : List D) (y x : D) : Option D := (keyD y).map fun k => (lookK ks ds k).getD x
def dGet1 (d1 d2 : DE) : DE := fun env => (d1 env).bindD fun x env => match x with
  | .dict ks ds => (d2 env).bindD fun y env => ofD (getE' ks ds y .none) env
  | _ => .stuck
theorem lookK_dget {G H : Hp} {a : Addr} {kv : List (Key × V)} {ds : List D} {y : D} {u : V} {k : Key} (ha : Rd H a (.dK kv)) (r : IsL X.K G (kv.map (·.2)) ds) (ek : u = kV k) {z : V} {w : D} (hz : Is X.K G z w) :
    ∃ o, DGet H a u o ∧ Is X.K G (o.getD z) ((lookK (kv.map (·.1)) ds k).getD w) := by
  cases q : lookK (kv.map (·.1)) ds k with
  | some x =>
    obtain ⟨v, e1, e2⟩ := lookK_val r q
    exact ⟨some v, .inl ⟨kv, k, ha, ek, e1.symm⟩, e2⟩
  | none =>
    have e1 := lookK_isSome (j := k) r
    rw [q] at e1
    cases e2 : valV kv k with
    | some v => rw [e2] at e1; cases e1
    | none => exact ⟨none, .inl ⟨kv, k, ha, ek, e2.symm⟩, hz⟩
theorem SE.get1 (hu : X.A.units + 64 < cLine) (m : M1 X o "get" apos e cpos) (h : SE X W o d) (h2 : SE X W e d2) : SE X W (.Call (.Attribute o "get" apos) [e] [] cpos) (dGet1 d d2) := fun F ps σ G H A Q env I R P =>
  PE.go (pe_dget1 (by omega) pe_run pe_run m) (h.seqD I R P fun x env1 v G1 H1 A1 s1 I1 i1 R1 P1 => by
    cases x with
    | dict ks ds =>
      obtain ⟨a, od, kv, rfl, ha, hk, r⟩ := i1.dictE
      subst hk
      refine ⟨a, rfl, .inl ⟨kv, .inr ⟨od, R1.gh _ _ ha⟩⟩, h2.seqD I1 R1 P1 fun y env2 u G2 H2 A2 s2 I2 i2 R2 P2 => ?_⟩
      unfold getE' at P2
      cases q : keyD y with
      | none => rw [q] at P2; exact P2.elim
      | some k =>
        rw [q] at P2
        obtain ⟨o', g, iz⟩ := lookK_dget (X := X) (y := y) (H := H2) (.inr ⟨od, R2.gh _ _ (s2 _ _ ha)⟩) (r.up s2) (keyD_vw (i2.vw R2.gh) q) (z := .non) (w := .none) .non
        exact ⟨o', g, P2 _ G2 H2 A2 [] (s1.trans s2) I2 (.d iz) R2⟩
    | _ => exact P1.elim)
end
end Dn

/-! {**d, k: v} -/
namespace Dn
open PySem PySem.Spec PyProof.Rows L2
section
variable {prog : Program} {w : World} {K : Type} [DecidableEq K] {knd : KeyKind prog w K} {A : Around} {E : Value → Shared → Prop} {s : Shared}
theorem put_pairs {d : Addr} {kvs : List (K × Value)} {k : K} {key v : Value} {Q : Unit → Shared → Prop} (hkey : knd.is k key = true) (hm : s.heap.DictOf knd d kvs)
    (hQ : ∀ h', h'.DictOf knd d (stored kvs k v) → Heap.SameBut d s.heap h' → Q () { s with heap := h' })
    (hsz : kvs.length ≤ sizeLine) :
    wpAny (model prog w) A (dictPut d (knd.hash k) key v) Q E s := by
  obtain ⟨o, es, ep, ho, hc, hd, hk, hp, hn⟩ := hm
  have hes : es.size ≤ sizeLine := by have e1 := hp.length; have e2 : es.toList.length = es.size := by simp
                                      omega
  unfold dictPut
  refine wpAny_bind (wpAny_dictFind_of hkey ho hd hk ?_)
  have hidx : (es.findIdx? fun e => knd.is k e.key) = kvs.findIdx? fun kv => decide (kv.1 = k) := by
    rw [← hp.findIdx k]; obtain ⟨l⟩ := es; simp
  cases hi : es.findIdx? fun e => knd.is k e.key with
  | some i =>
    refine wpAny_updateDict ho hd (hQ _ ⟨_, _, ep, Heap.get?_update_self _ ho (Obj.isFreed_of_dict (Obj.data_mapDict hd _)),
      hc.mapDict _, Obj.data_mapDict hd _, hk.modify _ _, ?_, ?_⟩ (Heap.SameBut.update ..))
    · rw [stored, if_pos (any_of_findIdx_some (hidx ▸ hi))]
      have hl : (es.toList.findIdx? fun e => knd.is k e.key) = some i := by rw [← hi]; obtain ⟨l⟩ := es; simp
      have := hp.modify hn hl v
      obtain ⟨l⟩ := es
      simpa using this
    · rw [stored, if_pos (any_of_findIdx_some (hidx ▸ hi)), keys_map_store]; exact hn
  | none =>
    have hnot : k ∉ kvs.map (·.1) := not_mem_of_findIdx_none (hidx ▸ hi)
    have hany : ¬ (kvs.any fun kv => decide (kv.1 = k)) = true := by
      rw [List.any_eq_true]; rintro ⟨kv, hkv, he⟩
      exact hnot (List.mem_map.mpr ⟨kv, hkv, of_decide_eq_true he⟩)
    refine wpAny_updateDictKeys (hz := hes) ho hd (hQ _ ⟨_, _, ep + 1, Heap.get?_update_self _ ho (Obj.isFreed_of_dict (Obj.data_mapDictKeys hd _)),
      hc.mapDictKeys _, Obj.data_mapDictKeys hd _, hk.push hkey _, ?_, ?_⟩ (Heap.SameBut.update ..))
    · rw [stored, if_neg hany]
      have := hp.append hkey (knd.hash k) v
      obtain ⟨l⟩ := es
      simpa using this
    · rw [stored, if_neg hany, List.map_append, List.nodup_append]
      refine ⟨hn, by simp, ?_⟩
      intro a ha b hb
      simp only [List.map_cons, List.map_nil, List.mem_singleton] at hb
      subst hb
      exact fun e => hnot (e ▸ ha)
end
section
variable {prog : Program} {w : World} {A : Around} {E : Value → Shared → Prop} {s : Shared}
theorem merge_map {d o : Addr} {kvs more : List (Key × Value)} {Q : Unit → Shared → Prop} (hdo : d ≠ o) (hoS : (o == sysModules) = false)
    (hd : s.heap.DictOf (mixKind prog w) d kvs) (ho : s.heap.DictOf (mixKind prog w) o more) (hsz : kvs.length + more.length ≤ sizeLine)
    (hQ : ∀ h', h'.DictOf (mixKind prog w) d (merged kvs more) → h'.DictOf (mixKind prog w) o more → Heap.SameBut d s.heap h' → Q () { s with heap := h' }) :
    wpAny (model prog w) A (mergeMapping d (.ref o) false) Q E s := by
  obtain ⟨od, esd, epd, hod, hcd, hdd, hkd, hpd, hnd⟩ := id hd
  obtain ⟨oo, eso, epo, hoo, hco, hdo', hko, hpo, hno⟩ := id ho
  have hlen : more.length = eso.size := by rw [← hpo.length]; simp
  unfold mergeMapping
  refine wpAny_bind (wpAny_isInstance ho.typeIs isSubtype_dict_dict ?_)
  dsimp only
  rw [if_pos rfl]
  refine wpAny_bind (wpAny_specialOf ho.typeIs F.slot_dict_iter.lookup ?_)
  refine wpAny_bind (wpAny_pure ?_)
  rw [show ((some (Value.builtin "dict.__iter__") : Option Value) == some (Value.builtin "dict.__iter__")) = true from by simp]
  dsimp only
  rw [if_neg (by rw [hoS]; exact Bool.false_ne_true)]
  refine wpAny_bind (wpAny_dictEntries hod hdd ?_)
  have hmx : ∀ x, (merged kvs (more.take x)).length ≤ sizeLine := fun x => by
    have e1 := merged_length_le kvs (more.take x)
    have e2 : (more.take x).length ≤ more.length := by rw [List.length_take]; omega
    omega
  split
  case' isTrue =>
    refine wpAny_bind (wpAny_dictEntries hoo hdo' ?_)
    rw [← Array.forIn_toList]
    refine wpAny_bind (wpAny_forIn_list _ (fun rest _ s' => s' = s ∧ ∀ e ∈ rest, ∃ k, keyIs k e.key = true) _ (fun x rest b s' hI => by
      obtain ⟨rfl, hr⟩ := hI
      obtain ⟨k, hk⟩ := hr x List.mem_cons_self
      rcases keyIs_shape hk with ⟨i, t, _, e⟩ | ⟨y, t, _, e⟩ <;> (rw [e]; exact wpAny_pure ⟨rfl, fun z hz => hr z (List.mem_cons_of_mem _ hz)⟩)) ?_ _ _ ⟨rfl, fun e he => by
      obtain ⟨k, h1, _⟩ := hko e (by simpa using he)
      exact ⟨k, h1⟩⟩)
    rintro b s' ⟨e0, _⟩
    rw [e0]
  all_goals
    refine wpAny_bind (wpAny_dictEntries hoo hdo' ?_)
    refine wpAny_bind (wpAny_dictEpoch hoo hdo' ?_)
    refine wpAny_bind (wpAny_forIn_list _
      (fun rest _ s' => ∃ h' i, s' = { s with heap := h' } ∧ rest = List.range' i (eso.size - i) ∧ i ≤ eso.size ∧ h'.DictOf (mixKind prog w) d (merged kvs (more.take i)) ∧ h'.get? o = some oo ∧ Heap.SameBut d s.heap h')
      _ ?_ ?_ _ _ ⟨s.heap, 0, rfl, by rw [List.range_eq_range']; simp, Nat.zero_le _, by simpa [merged] using hd, hoo, Heap.SameBut.refl _ _⟩)
    · rintro x rest b s' ⟨h', i, rfl, hr, hi, hd', hoo', hs'⟩
      have hlt : i < eso.size := by
        rcases Nat.lt_or_ge i eso.size with h | h
        · exact h
        · rw [Nat.sub_eq_zero_of_le h] at hr; simp at hr
      obtain ⟨rfl, hrest⟩ : x = i ∧ rest = List.range' (i + 1) (eso.size - (i + 1)) := by
        have e : eso.size - i = (eso.size - (i + 1)) + 1 := by omega
        rw [e, List.range'_succ] at hr
        injection hr with h1 h2
        exact ⟨h1, h2⟩
      refine wpAny_bind (wpAny_dictEntries hoo' hdo' ?_)
      rw [Array.getElem?_eq_getElem hlt]
      obtain ⟨kv, hkv⟩ : ∃ kv, more[x]? = some kv := ⟨more[x]'(by rw [hlen]; exact hlt), List.getElem?_eq_getElem _⟩
      obtain ⟨k, v⟩ := kv
      obtain ⟨hkey, hval⟩ := hpo.get? (e := eso[x]) (by simp [hlt]) hkv
      obtain ⟨k', hkey', hhash⟩ := hko eso[x] (Array.getElem_mem hlt)
      obtain rfl : k' = k := (mixKind prog w).inj _ _ _ hkey' hkey
      dsimp only
      rw [if_neg (by decide), hhash, hval]
      refine wpAny_bind (wpAny_holding (put_pairs (hsz := hmx x) hkey hd' fun h'' hd'' hs'' => ?_))
      have hoo'' : h''.get? o = some oo := (hs''.2 o (Ne.symm hdo)).trans hoo'
      refine wpAny_bind (wpAny_dictEpoch hoo'' hdo' ?_)
      rw [if_neg (by simp)]
      exact wpAny_pure ⟨h'', x + 1, rfl, hrest, hlt, by rw [merged_take_succ kvs more x (k', v) hkv]; exact hd'', hoo'', hs'.trans hs''⟩
    · rintro b s' ⟨h', i, rfl, hr, hi, hd', hoo', hs'⟩
      have hin : i = eso.size := by
        rcases Nat.lt_or_ge i eso.size with h | h
        · have e : eso.size - i = (eso.size - (i + 1)) + 1 := by omega
          rw [e, List.range'_succ] at hr; exact nomatch hr
        · exact Nat.le_antisymm hi h
      refine wpAny_pure (hQ h' ?_ ⟨oo, eso, epo, hoo', hco, hdo', hko, hpo, hno⟩ hs')
      rw [hin, ← hlen, List.take_length] at hd'; exact hd'
theorem disp_walk {t1 tk tv : Sem Value} {Q : Value → Shared → Prop} {S : Addr} (hS : S = s.heap.objs.size)
    (h : wpAny (model prog w) A t1 (fun m s1 => wpAny (model prog w) A (mergeMapping S m false) (fun _ s2 => wpAny (model prog w) A (subDict [(tk, tv)]) (fun T s3 => wpAny (model prog w) A (mergeMapping S (.ref T) false) (fun _ s4 => Q (.ref S) s4) (fun _ _ => False) s3) E s2) (fun _ _ => False) s1) E
      { s with heap := s.heap.push { cls := .type "dict", data := .dict #[] } }) : wpAny (model prog w) A (dictDisplay [(none, t1), (some tk, tv)]) Q E s := by
  subst hS
  unfold dictDisplay
  dsimp only
  simp only [List.forIn_cons, List.forIn_nil, List.isEmpty_nil, if_true, pure_bind, bind_assoc, List.nil_append, List.length_cons, List.length_nil]
  refine wpAny_bind (wpAny_alloc ?_)
  refine wpAny_bind (wpAny_holding (wpAny_mono h (fun m s1 h1 => ?_) fun _ _ x => x))
  refine wpAny_bind (wpAny_onRaise (wpAny_tryCatch (wpAny_onRaise (wpAny_holding (wpAny_mono h1 (fun _ s2 h2 => ?_) fun _ _ x => x.elim)))))
  rw [if_neg (by decide)]
  simp only [pure_bind, List.isEmpty_cons, Bool.false_eq_true, if_false, bind_assoc]
  refine wpAny_bind (wpAny_holding (wpAny_mono h2 (fun T s3 h3 => ?_) fun _ _ x => x))
  refine wpAny_bind (wpAny_onRaise (wpAny_holding (wpAny_mono h3 (fun _ s4 h4 => ?_) fun _ _ x => x.elim)))
  exact wpAny_pure h4
end
def tStar (td tk tv : TE) : TE := fun σ H Q => ∀ p, H p = none → td σ (upd H p (.dK [])) fun x H1 => ∃ a kvs, x = V.ref a ∧ a ≠ p ∧ Rd H1 a (.dK kvs) ∧ H1 p = some (.dK []) ∧ kvs.length ≤ 1000 ∧
  ∀ q, H1 q = none → q ≠ p → tk σ (upd (upd H1 p (.dK kvs)) q (.dK [])) fun y H2 => tv σ H2 fun z H3 => ∃ k, y = kV k ∧ H3 p = some (.dK kvs) ∧ H3 q = some (.dK []) ∧ Q (.ref p) (upd (upd H3 q (.dK [(k, z)])) p (.dK (putK kvs k z)))
theorem dictOf_nd {K : Type} [DecidableEq K] {prog : Program} {w : World} {knd : KeyKind prog w K} {h : Heap} {d : Addr} {kvs : List (K × Value)} (m : h.DictOf knd d kvs) : (kvs.map (·.1)).Nodup := let ⟨_, _, _, _, _, _, _, _, hn⟩ := m; hn
theorem pe_star {X : Cx} {e1 ek ev : Expr} {pos : Pos} {td tk tv : TE} (h1 : PE X e1 td) (hk : PE X ek tk) (hv : PE X ev tv) : PE X (.Dict [none, some ek] [e1, ev] pos) (tStar td tk tv) := by
  refine ⟨fun pins s σ H Q I h => ?_⟩
  show wpAny _ _ (do standAt pos; dictDisplay [(none, do let x ← eval e1 X.env; standAt pos; pure x), (some (eval ek X.env), do let x ← eval ev X.env; standAt pos; pure x)]) _ _ s
  refine wpAny_bind (wpAny_standAt ?_)
  have hn := I.hok.fresh (Nat.le_refl s.heap.objs.size)
  have I1 := I.laid (a := s.heap.objs.size) (o := .dK []) (h' := s.heap.push { cls := .type "dict", data := .dict #[] }) (t' := s.toks) (fun _ _ q => Heap.get?_push_of_some _ q) (Nat.le_refl _) (dk_empty s.heap I.big)
  refine disp_walk rfl (wpAny_bind (thn (h1.run pins _ σ _ _ I1 (h _ hn)) fun u s1 hh => wpAny_bind (wpAny_standAt (wpAny_pure ?_))))
  obtain ⟨x, H1, J1, rx, a, kvs, ex, hap, ha, hp, hl, q1⟩ := hh
  subst ex
  obtain rfl : u = Value.ref a := rx
  generalize s.heap.objs.size = p at *
  obtain ⟨z, hd, vs, rel, dd⟩ := dk_rd J1.hok ha
  obtain ⟨z0, hd0, vs0, r0, dd0⟩ := dk_of J1.hok hp
  cases r0
  have lv : vs.length ≤ 1000 := by rw [← KV.length rel]; exact hl
  have sl := sizeLine_eq
  refine merge_map (Ne.symm hap) hd dd0 dd (by rw [List.length_nil]; omega) fun h' m1 m2 hs => ?_
  rw [merged_nil_of_nodup vs (dictOf_nd dd)] at m1
  have J2 : Inv X pins σ (upd H1 p (.dK kvs)) { s1 with heap := h' } := d_write (t' := s1.toks) J1 (by rw [hp]; exact True.intro) hs (let ⟨q, _, _, hq, _⟩ := m1; ⟨q, hq⟩) (dk_new z hd0 rel m1)
  have hn2 := J2.hok.fresh (Nat.le_refl h'.objs.size)
  have hqp : h'.objs.size ≠ p := fun e => by rw [e, upd_same] at hn2; cases hn2
  rw [upd_ne hqp] at hn2
  have J3 := J2.laid (a := h'.objs.size) (o := .dK []) (h' := h'.push { cls := .type "dict", data := .dict #[] }) (t' := s1.toks) (fun _ _ q => Heap.get?_push_of_some _ q) (Nat.le_refl _) (dk_empty h' J2.big)
  refine wpAny_subDict (knd := mixKind X.prog X.w) (by show 1 ≤ 15; decide) ?_
  show wpAny _ _ (evalPairs (pairTrees [some ek] [ev] X.env pos)) _ _ _
  refine pairTrees_cons_walk (thn (hk.run pins _ σ _ _ J3 (q1 _ hn2 hqp)) fun u2 s2 ⟨y, H2, J4, ry, q2⟩ => thn (hv.run pins s2 σ H2 _ J4 q2) fun u3 s3 hh => pairTrees_nil_walk ?_)
  obtain ⟨w3, H3, J5, rz, k, ey, hp3, hq3, q3⟩ := hh
  subst ey
  generalize h'.objs.size = q at *
  obtain ⟨z5, hd5, vs5, r5, dd5⟩ := dk_of J5.hok hq3
  cases r5
  refine ⟨[(k, u3)], ⟨kV_is ry, rfl, True.intro⟩, dd5, fun h4 m4 hs4 => ?_⟩
  have e4 : merged [] [(k, u3)] = [(k, u3)] := by simp [merged, stored]
  rw [e4] at m4
  have J6 : Inv X pins σ (upd H3 q (.dK [(k, w3)])) { s3 with heap := h4, toks := s3.toks + [(u2, u3)].length } := d_write (t' := s3.toks + [(u2, u3)].length) J5 (by rw [hq3]; exact True.intro) hs4 (let ⟨q, _, _, hq, _⟩ := m4; ⟨q, hq⟩) (dk_new (by rw [sl]; show 1 ≤ 16777216; decide) hd5 (.cons ⟨rfl, rz⟩ .nil) m4)
  have hp6 : (upd H3 q (.dK [(k, w3)])) p = some (.dK kvs) := by rw [upd_ne (Ne.symm hqp)]; exact hp3
  obtain ⟨z6, hd6, vs6, r6, dd6⟩ := dk_of J6.hok hp6
  have l6 : vs6.length ≤ 1000 := by rw [← KV.length r6]; exact hl
  refine merge_map (Ne.symm hqp) hd5 dd6 m4 (by show vs6.length + 1 ≤ _; omega) fun h7 m7 _ hs7 => ?_
  have e7 : merged vs6 [(k, u3)] = stored vs6 k u3 := rfl
  rw [e7] at m7
  have lp := length_putK kvs k w3
  exact ⟨.ref p, _, d_write (t' := s3.toks + [(u2, u3)].length) J6 (by rw [hp6]; exact True.intro) hs7 (let ⟨q, _, _, hq, _⟩ := m7; ⟨q, hq⟩) (dk_new (by omega) hd6 (r6.put k rz) m7), rfl, q3⟩
def dStarK (d1 dk dv : DE) : DE := fun env => (d1 env).bindD fun x env => match x with
  | .dict ks ds => if ks.length ≤ 1000 then (dk env).bindD fun y env => (dv env).bindD fun z env => match keyD y with
    | some k => .ok (.dict (putKs ks k) (putDs ks ds k z)) env
    | none => .stuck else .stuck
  | _ => .stuck
theorem bindD_split {β : Type} {r : Rs T} {f : D → Ev → Rs β} {ok : β → Ev → Prop} {ex ex' : XC → Fds → Ev → Prop} (hx : ∀ c fs e, ex c fs e → ex' c fs e) (P : (r.bindD f).post ok ex) : (r.bindD fun x e => Rs.ok x e).post (fun x e => (f x e).post ok ex) ex' := by
  cases r with
  | ok t e => exact P
  | exc c fs e => exact hx c fs e P
  | stuck => exact P
section
variable {X : Cx} {W : WX} {e1 ek ev : Expr} {pos : Pos} {d1 dk dv : DE}
theorem SE.starK (h1 : SE X W e1 d1) (hk : SE X W ek dk) (hv : SE X W ev dv) : SE X W (.Dict [none, some ek] [e1, ev] pos) (dStarK d1 dk dv) := fun F ps σ G H A Q env I R P => by
  refine PE.go (pe_star pe_run pe_run pe_run) fun p hp => ?_
  have R1 : Rel F G (upd H p (.dK [])) (A ++ [p]) := (R.mine hp).perm (by show (p :: A).Perm _; exact (List.perm_append_singleton p A).symm)
  have I1 : EvIs X.K G (upd H p (.dK [])) ps σ env A := I.up (Same.refl G) (upd_off (R.ne hp))
  have R2 := R1.start (B := A) (fun b hb => List.mem_append_left _ hb) R1.left.nd
  have P2 := bindD_split (ex' := exP X W ⟨G, upd H p (.dK []), fun a => a ∈ A⟩ ps G) (fun c fs e' h => exP_back (F' := F) R1 h) P
  refine h1.seqD I1 R2 P2 fun x env1 v G1 H1 A1 s1 I2 i1 R3 P1 => ?_
  have P1 : Rs.post _ (okE X F ps σ G Q) (exP X W F ps G) := P1
  cases x with
  | dict ks ds =>
    obtain ⟨a, od, kv, rfl, ha, hkk, r⟩ := i1.dictE
    dsimp only at P1
    by_cases hl : ks.length ≤ 1000
    · rw [if_pos hl] at P1
      obtain ⟨r8, s8, k8⟩ := Rel.back (B := A) (A := [p]) R1 R3
      have hp1 : H1 p = some (.dK []) := by rw [k8 p List.mem_cons_self]; exact upd_same
      have hap : a ≠ p := fun e => by
        have := (r8.fp p (List.mem_append_right _ List.mem_cons_self)).1
        rw [← e, ha] at this; cases this
      refine ⟨a, kv, rfl, hap, .inr ⟨od, R3.gh _ _ ha⟩, hp1, by rw [← List.length_map (f := fun z : Key × V => z.1), hkk]; exact hl, fun q hq hqp => ?_⟩
      have R4 : Rel F G1 (upd H1 p (.dK kv)) (A1 ++ [p]) := r8.put (List.mem_append_right _ List.mem_cons_self)
      have hq4 : (upd H1 p (.dK kv)) q = none := by rw [upd_ne hqp]; exact hq
      have R5 : Rel F G1 (upd (upd H1 p (.dK kv)) q (.dK [])) (A1 ++ [p, q]) := (R4.mine hq4).perm (by
        show (q :: (A1 ++ [p])).Perm (A1 ++ [p, q])
        have := List.perm_append_singleton q (A1 ++ [p])
        rw [List.append_assoc] at this
        exact this.symm)
      have n1 : ∀ b ∈ A1, b ≠ p := fun b hb e => r8.dj p List.mem_cons_self (e ▸ hb)
      have I4 : EvIs X.K G1 (upd (upd H1 p (.dK kv)) q (.dK [])) ps σ env1 A1 := I2.up (Same.refl G1) fun b hb => by
        rw [upd_ne (R4.ne hq4 b (List.mem_append_left _ hb)), upd_ne (n1 b hb)]
      have R6 := R5.start (B := A1) (fun b hb => List.mem_append_left _ hb) R5.left.nd
      have bk : ∀ (G' : Hp) c fs e', exP X W F ps G c fs e' → Same G G' → exP X W ⟨G1, upd (upd H1 p (.dK kv)) q (.dK []), fun a => a ∈ A1⟩ ps G' c fs e' := fun G' c fs e' h s => exP_back (F' := F) R5 (h.up s)
      have P3 := bindD_split (ex' := exP X W ⟨G1, upd (upd H1 p (.dK kv)) q (.dK []), fun a => a ∈ A1⟩ ps G1) (fun c fs e' h => bk G1 c fs e' h s1) P1
      refine hk.seqD I4 R6 P3 fun y env2 v2 G2 H2 A2 s2 I5 i2 R7 P4 => ?_
      have P4 : Rs.post _ (okE X F ps σ G Q) (exP X W F ps G) := P4
      have P5 := bindD_split (ex' := exP X W ⟨G1, upd (upd H1 p (.dK kv)) q (.dK []), fun a => a ∈ A1⟩ ps G2) (fun c fs e' h => bk G2 c fs e' h (s1.trans s2)) P4
      refine hv.seqD I5 R7 P5 fun z env3 v3 G3 H3 A3 s3 I6 i3 R9 P6 => ?_
      have P6 : Rs.post _ (okE X F ps σ G Q) (exP X W F ps G) := P6
      cases hy : keyD y with
      | none => rw [hy] at P6; exact P6.elim
      | some k =>
        rw [hy] at P6
        have P6 : okE X F ps σ G Q (.dict (putKs ks k) (putDs ks ds k z)) env3 := P6
        obtain ⟨r13, s13, k13⟩ := Rel.back (B := A1) (A := [p, q]) R5 R9
        have hp3 : H3 p = some (.dK kv) := by rw [k13 p List.mem_cons_self, upd_ne (Ne.symm hqp)]; exact upd_same
        have hq3 : H3 q = some (.dK []) := by rw [k13 q (List.mem_cons_of_mem _ List.mem_cons_self)]; exact upd_same
        refine ⟨k, keyD_vw (i2.vw R7.gh) hy, hp3, hq3, ?_⟩
        have R14 : Rel F G3 (upd (upd H3 q (.dK [(k, v3)])) p (.dK (putK kv k v3))) (A3 ++ [p, q]) := (r13.put (a := q) (List.mem_append_right _ (List.mem_cons_of_mem _ List.mem_cons_self))).put (List.mem_append_right _ List.mem_cons_self)
        have m3 : ∀ b ∈ A3, b ≠ p ∧ b ≠ q := fun b hb => ⟨fun e => r13.dj p List.mem_cons_self (e ▸ hb), fun e => r13.dj q (List.mem_cons_of_mem _ List.mem_cons_self) (e ▸ hb)⟩
        refine P6 (.ref p) G3 _ A3 [p] ((s1.trans s2).trans s3) (I6.up (Same.refl G3) fun b hb => by rw [upd_ne (m3 b hb).1, upd_ne (m3 b hb).2]) (.dict upd_same (by rw [putK_keys, hkk]) (by rw [← hkk]; exact putK_vals i3 (r.up (s2.trans s3)))) ?_
        have nd := R14.nd
        refine R14.sub (fun b hb => ?_) ?_
        · rcases List.mem_append.mp hb with h | h
          · exact List.mem_append_right _ (by rw [List.mem_singleton.mp h]; exact List.mem_cons_self)
          · exact List.mem_append_left _ h
        · obtain ⟨a1, a2, a3⟩ := List.nodup_append.mp nd
          exact List.nodup_append.mpr ⟨by simp, a1, fun x hx y hy e => a3 y hy x (by rw [List.mem_singleton.mp hx]; exact List.mem_cons_self) e.symm⟩
    · rw [if_neg hl] at P1; exact P1.elim
  | _ => exact P1.elim
end
end Dn

/-! ==, != by an own __eq__; len of an own class -/
namespace Dn
open PySem PySem.Spec PyProof.Rows L2
def neF (C : Str) (K : PySem.W.Frag) : Bool := He.eqO (PySem.W.findIn K (.ref (He.ga K C)) "__ne__") (some (some (.builtin "object.__ne__"))) && decide (PySem.W.subIn K (.ref (He.ga K C)) (.type "object") = some true)
structure NeOf (K : PySem.W.Frag) (C : Str) : Prop where
  at_ : PySem.W.findIn K (.ref (He.ga K C)) "__ne__" = some (some (.builtin "object.__ne__"))
  sub : PySem.W.subIn K (.ref (He.ga K C)) (.type "object") = some true
theorem neF_ok {K : PySem.W.Frag} {C : Str} (h : neF C K = true) : NeOf K C := let ⟨a, b⟩ := He.ba h; ⟨He.eqO_ok a, of_decide_eq_true b⟩
section
variable {M : Model} {A : Around} {E : Value → Shared → Prop} {s : Shared} {K : PySem.W.Frag} {x C : Addr} {ox : Obj} {od : Option Obj} {name : Str} {id : String} {args : List Value}
theorem ifBound_B {Q : Option Value → Shared → Prop} (X : K.In s.heap) (I : PySem.W.InstAt s.heap x ox C od) (hs : PySem.W.findIn K (.ref C) name = some (some (.builtin id))) (S : PySem.Slot "object" name id)
    (h : wpAny M A (call (.builtin id) (.ref x :: args)) (fun v => Q (some v)) E s) : wpAny M A (callSpecialIfBound? (.ref x) name args) Q E s := by
  simp only [callSpecialIfBound?, bindSpecialIfBound?]
  refine wpAny_holding (wpAny_bind (wpAny_bind (wpAny_bind (I.type.here ((PySem.W.looks_findIn X hs).here ?_)))))
  simp only [S.bind]
  refine wpAny_bind (wpAny_askSetting (wpAny_ite ?_))
  have fin : wpAny M A (call (.builtin id) ([.ref x] ++ args) >>= fun v => pure (some v)) Q E s := wpAny_bind (wpAny_mono h (fun v s' h' => wpAny_pure h') fun _ _ h' => h')
  split
  · exact wpAny_bind (wpAny_pure (wpAny_pure fin))
  · exact wpAny_tryCatch (wpAny_bind (wpAny_pure (wpAny_pure fin)))
theorem special_fn {f : Addr} {Q : Option Value → Shared → Prop} (X : K.In s.heap) (I : PySem.W.InstAt s.heap x ox C od) (hs : PySem.W.findIn K (.ref C) name = some (some (.ref f))) (hf : PySem.W.isFn K (.ref f) = true)
    (h : wpAny M A (call (.ref f) (.ref x :: args)) (fun v => Q (some v)) E s) : wpAny M A (callSpecial? (.ref x) name args) Q E s := by
  unfold callSpecial?
  refine wpAny_bind (wpAny_bind (I.type.here ((PySem.W.looks_findIn X hs).here ?_)))
  dsimp only
  refine wpAny_holding (wpAny_bind ((PySem.W.bind_fn X _ (beq_iff_eq.mp hf)).here ?_))
  exact wpAny_bind (wpAny_mono h (fun v s' h' => wpAny_pure h') fun _ _ h' => h')
end
section
variable {X : Cx} {W : WX} {F : Fm} {ps : List V} {σ : L2.St} {G H : Hp} {A : List Addr} {env : Ev} {k : Nat} {qs : List Str} {Fn' : Fn} {C : Str} {e e2 : Expr} {d d2 : DE} {pos : Pos}
theorem run_in1 {f : Addr} {sp : Sp} {vs : List V} {Q : VK} {pins : List (Addr × Obj)} {s : Shared} {us : List Value} {E' : Value → Shared → Prop} (D : Callee X.prog X.w X.K X.mg X.base f k qs [] sp) (hr : Room (k + 1) X.A) (hg : X.A.guards = some [])
    (h : sp vs H Q (fun _ _ _ => False)) (I : Inv X pins σ H s) (r : Vals vs us) : wpAny (model X.prog X.w) X.A.in1 (call (.ref f) us) (EP X pins σ Q) E' s := by
  obtain ⟨fd, ds, Fo, hb, hd, _⟩ := D.ex
  cases hd
  have hl : us.length = qs.length := r.length.symm.trans (Fo.len _ _ _ _ h)
  refine wpAny_call (codeAny_mono (Fo.run X.A.in1 X.stack s H ⟨us, []⟩ us vs Q _ hr.in1 hg I.env0.in1 (by have := hb s us I.kIn (by rw [List.append_nil]; exact hl); rw [List.append_nil] at this; exact this) r h) fun r s' hq => ?_)
  cases r with
  | error er => obtain ⟨_, _, _, _, _, _, _, _, _, _, _, _, hE⟩ := hq; exact hE.elim
  | ok fl =>
    cases fl with
    | ret u => exact I.after hq
    | next => exact False.elim hq
    | brk => exact False.elim hq
    | cont => exact False.elim hq
def dEqO (C : Str) (Fn' : Fn) (neg : Bool) (d1 d2 : DE) : DE := fun env => (d1 env).bindD fun x env => (d2 env).bindD fun y env => if (instC C x && instC C y) = true then (callQ Fn' 2 [] [x, y] env).bind (tB' neg) else .stuck
theorem op_eqO {neg : Bool} {a a2 : Addr} {y z : D} {Q : VK} (hr : Room (k + 1) X.A) (hu : X.A.units + 64 < cLine) (hgd : X.A.guards = some []) (D' : DefM X.prog X.w X.K X.mg X.base C "__eq__" k qs [] (spF X.K [false, false] Fn')) (N : NeOf X.K C) (hz : instC C y = true) (hz2 : instC C z = true)
    (I : EvIs X.K G H ps σ env A) (R : Rel F G H A) (i1 : Is X.K G (.ref a) y) (i2 : Is X.K G (.ref a2) z) {b : Bool} (e : callP Fn' 2 [] [y, z] env = .ok (.d (.bool b)) env) (kk : OkO X F G H A Q (.d (.bool (xor neg b)))) : RunO X (compareOp (if neg = true then .NotEq else .Eq)) (.ref a) (.ref a2) H Q := by
  intro pins s τ v u J rx ry
  cases rx
  cases ry
  obtain ⟨_, dx, fs, ea, ha⟩ := instC_is i1 hz
  cases ea
  obtain ⟨_, dx2, fs2, ea2, ha2⟩ := instC_is i2 hz2
  cases ea2
  obtain ⟨m1, O1, _⟩ := ins_get J.hok (R.gh _ _ ha)
  obtain ⟨od, J1, _⟩ := O1.look
  obtain ⟨m2, O2, _⟩ := ins_get J.hok (R.gh _ _ ha2)
  obtain ⟨od2, J2, _⟩ := O2.look
  have sp1 : spF X.K [false, false] Fn' [.ref a, .ref a2] H (fun v H' => ∃ c, v = .bl c ∧ Q (.bl (xor neg c)) H') (fun _ _ _ => False) := by
    refine sp_ok (n := 2) (vs := [.ref a, .ref a2]) I R (.cons i1 (.cons i2 .nil)) e fun v' G' H' B s2 k2 t' r2 => ?_
    cases t' with
    | d t' =>
      cases t'
      exact ⟨b, rfl, kk _ G' H' [] s2 k2 (.d (.bl _)) r2⟩
  have rr : Vals [V.ref a, V.ref a2] [Value.ref a, Value.ref a2] := .cons rfl (.cons rfl .nil)
  cases neg with
  | false =>
    obtain ⟨m, hF⟩ := J.fr
    show wpAny _ _ (richCompare .Eq (.ref a) (.ref a2)) _ _ s
    refine PySem.W.cmp_K (op := .Eq) (tb := .ref (He.ga X.K C)) (by omega) hF J.ok.mod.kin J1 J2.type (by simp [PySem.W.notFirst]) D'.mt.at_ D'.mt.fn ?_
    refine thn (run_cs (W := fun _ _ _ _ => False) (σ := τ) D'.c (hr.mono (Nat.le_succ _)) hgd takesF sp1 pins s [.ref a, .ref a2] J rr) fun r s' hq => ?_
    obtain ⟨v', H', I2, rv, c, rfl, q2⟩ := hq
    cases (show r = Value.bool c from rv)
    exact ⟨.bl c, H', I2, rfl, by rw [Bool.false_xor] at q2; exact q2⟩
  | true =>
    show wpAny _ _ (richCompare .NotEq (.ref a) (.ref a2)) _ _ s
    unfold richCompare
    simp only [oneThing_ref]
    refine wpAny_holding (wpAny_bind (wpAny_cRoomFor (by omega) ?_))
    refine wpAny_bind (J1.type.here (wpAny_bind (J2.type.here ?_)))
    rw [show (Value.ref (He.ga X.K C) != Value.ref (He.ga X.K C)) = false from by simp]
    simp only [Bool.false_eq_true, if_false]
    refine wpAny_bind (wpAny_pure ?_)
    simp only [Bool.false_eq_true, if_false]
    refine wpAny_bind ?_
    simp only [tryCompare]
    have inst : PySem.W.Looks (model X.prog X.w) s.heap (isInstance (.ref a) (.type "object")) true := J1.type.andThen (PySem.W.looks_subIn J.kIn N.sub)
    refine wpAny_bind (ifBound_B J.kIn J1 N.at_ PySem.F.cmp_object.ne (wpAny_call (codeAny_call_builtin PySem.F.cmp_object.ne.plain PySem.F.cmpEntry_ne (PySem.W.check_slot PySem.F.cmpKind_ne PySem.F.cmpSplit_ne inst (PySem.F.cmpArgs_ne _ _) ?_))))
    unfold Builtin.«object.__ne__»
    refine wpAny_bind (m := slotArgs "__ne__" 1 _) (wpAny_pure ?_)
    dsimp only
    refine wpAny_bind (wpAny_cRoomFor (by show X.A.units + 1 < _; omega) ?_)
    refine wpAny_bind (m := callSpecialIfBound? (.ref a) (Str.ofString "__eq__") [.ref a2]) (PySem.W.ifBound_K J.kIn J1 D'.mt.at_ D'.mt.fn (thn (run_in1 D'.c hr hgd sp1 J rr) fun r s' hq => ?_))
    obtain ⟨v', H', I2, rv, c, rfl, q2⟩ := hq
    cases (show r = Value.bool c from rv)
    dsimp only
    refine wpAny_bind (wpAny_truthy_bool ?_)
    exact wpAny_pure (wpAny_pure (wpAny_pure ⟨.bl (!c), H', I2, rfl, by rw [Bool.true_xor] at q2; exact q2⟩))
theorem eq_own {neg : Bool} {op : CmpOp} (hop : op = if neg = true then .NotEq else .Eq) (hr : Room (k + 1) X.A) (hu : X.A.units + 64 < cLine) (hgd : X.A.guards = some []) (D' : DefM X.prog X.w X.K X.mg X.base C "__eq__" k qs [] (spF X.K [false, false] Fn')) (N : NeOf X.K C) (hm : behindInMarks op e2 = false)
    (h1 : SE X W e d) (h2 : SE X W e2 d2) : SE X W (.Compare e [op] [e2] pos) (dEqO C Fn' neg d d2) := fun F ps σ G H A Q env I R P =>
  PE.go (pe_cmpR opr_run pe_run pe_run hm) (h1.seqD I R P fun x env1 v G1 H1 A1 s1 I1 i1 R1 P1 => h2.seqD I1 R1 P1 fun y env2 u G2 H2 A2 s2 I2 i2 R2 P2 => by
    by_cases hz : (instC C x && instC C y) = true
    · rw [if_pos hz] at P2
      obtain ⟨z1, z2⟩ := Bool.and_eq_true_iff.mp hz
      obtain ⟨t, et, P3⟩ := callQ_bind P2
      cases t with
      | d z =>
        cases z with
        | bool b =>
          obtain ⟨a, dx, fs, rfl, ha⟩ := instC_is i1 z1
          obtain ⟨a2, dx2, fs2, rfl, ha2⟩ := instC_is i2 z2
          rw [hop]
          exact op_eqO hr hu hgd D' N z1 z2 I2 R2 (i1.up s2) i2 et (okO_of I2 R2 (s1.trans s2) P3)
        | _ => exact P3.elim
      | _ => exact P3.elim
    · rw [if_neg hz] at P2; exact P2.elim)
theorem eq_ownT {neg : Bool} {op : CmpOp} (hop : op = if neg = true then .NotEq else .Eq) (hr : Room (k + 1) X.A) (hu : X.A.units + 64 < cLine) (hgd : X.A.guards = some []) (D' : DefM X.prog X.w X.K X.mg X.base C "__eq__" k qs [] (spF X.K [false, false] Fn')) (N : NeOf X.K C) (hm : behindInMarks op e2 = false)
    (h1 : SE X W e d) (h2 : SE X W e2 d2) : ST X W (.Compare e [op] [e2] pos) (aB (dEqO C Fn' neg d d2)) := fun F ps σ G H A Q env I R P =>
  PT.go (pt_cmpR opr_run pe_run pe_run hm) (h1.seqD (f := fun x env => (d2 env).bindD fun y env => (if (instC C x && instC C y) = true then (callQ Fn' 2 [] [x, y] env).bind (tB' neg) else .stuck).bind tB) (ok := okT X F ps σ G Q) I R (by
      unfold aB dEqO at P
      rw [bindD_bind] at P
      have e : (fun x env => ((d2 env).bindD fun y env => if (instC C x && instC C y) = true then (callQ Fn' 2 [] [x, y] env).bind (tB' neg) else .stuck).bind tB) = (fun x env => (d2 env).bindD fun y env => (if (instC C x && instC C y) = true then (callQ Fn' 2 [] [x, y] env).bind (tB' neg) else .stuck).bind tB) := by
        funext x env; rw [bindD_bind]
      rw [← e]; exact P) fun x env1 v G1 H1 A1 s1 I1 i1 R1 P1 => h2.seqD I1 R1 P1 fun y env2 u G2 H2 A2 s2 I2 i2 R2 P2 => by
    by_cases hz : (instC C x && instC C y) = true
    · rw [if_pos hz, bind_bind] at P2
      obtain ⟨z1, z2⟩ := Bool.and_eq_true_iff.mp hz
      obtain ⟨t, et, P3⟩ := callQ_bind P2
      cases t with
      | d z =>
        cases z with
        | bool b =>
          obtain ⟨a, dx, fs, rfl, ha⟩ := instC_is i1 z1
          obtain ⟨a2, dx2, fs2, rfl, ha2⟩ := instC_is i2 z2
          rw [hop]
          have P3 : okT X F ps σ G Q (xor neg b) env2 := P3
          refine op_eqO hr hu hgd D' N z1 z2 I2 R2 (i1.up s2) i2 et fun v' G' H' B s' k' t' r' => ?_
          cases t' with
          | d t' => cases t'; exact ⟨_, rfl, P3 G' H' A2 ((s1.trans s2).trans s') (I2.up s' k') r'⟩
        | _ => exact P3.elim
      | _ => exact P3.elim
    · rw [if_neg hz] at P2; exact P2.elim)
/-! ### len(o) -/
def tN : T → Ev → Rs T := fun t env => match t with
  | .d (.int n) => if 0 ≤ n ∧ n < 1000000 then .ok (.d (.int n)) env else .stuck
  | _ => .stuck
def dLenO (C : Str) (Fn' : Fn) (d1 : DE) : DE := fun env => (d1 env).bindD fun x env => if instC C x = true then (callQ Fn' 1 [] [x] env).bind tN else .stuck
theorem SE.lenO {p : Pos} (hr : Room (k + 1) X.A) (hgd : X.A.guards = some []) (D' : DefM X.prog X.w X.K X.mg X.base C "__len__" k qs [] (spF X.K [false] Fn')) (hm : X.mg "len" = none) (hg : Gl X "len") (he : starEach [e] X.env = (false, eval e X.env) :: starEach [] X.env) (hpl : (backTo pos (starEach [] X.env)).any (·.1) = false)
    (h1 : SE X W e d) : SE X W (.Call (.Name "len" p) [e] [] pos) (dLenO C Fn' d) := fun F ps σ G H A Q env I R P =>
  PE.go (pe_callB cr_run hg hm (show bootBuiltins "len" = some (.builtin "len") by decide +kernel) (pa_cons pe_run pa_nil he) (by decide) rfl he hpl) (h1.seqD I R P fun x env1 v G1 H1 A1 s1 I1 i1 R1 P1 => by
    by_cases hz : instC C x = true
    · rw [if_pos hz] at P1
      obtain ⟨t, et, P3⟩ := callQ_bind P1
      unfold tN at P3
      cases t with
      | d z =>
        cases z with
        | int n =>
          by_cases hn : 0 ≤ n ∧ n < 1000000
          · have P3 : Rs.post (if 0 ≤ n ∧ n < 1000000 then Rs.ok (T.d (.int n)) env1 else .stuck) (okE X F ps σ G Q) (exP X W F ps G1) := P3
            rw [if_pos hn] at P3
            have kk : OkO X F G1 H1 A1 Q (.d (.int n)) := okO_of I1 R1 s1 P3
            obtain ⟨a, dx, fs, rfl, ha⟩ := instC_is i1 hz
            intro pins s τ us J rr
            obtain ⟨u, rfl, ru⟩ := vals1 rr
            cases ru
            obtain ⟨m1, O1, _⟩ := ins_get J.hok (R1.gh _ _ ha)
            obtain ⟨od, J1, _⟩ := O1.look
            have sp1 : spF X.K [false] Fn' [.ref a] H1 (fun v H' => v = .int n ∧ Q (.int n) H') (fun _ _ _ => False) := by
              refine sp_ok (n := 1) (vs := [.ref a]) I1 R1 (.cons i1 .nil) et fun v' G' H' B s2 k2 t' r2 => ?_
              cases t' with
              | d t' => cases t'; exact ⟨rfl, kk _ G' H' [] s2 k2 (.d (.int _)) r2⟩
            refine Calls.call_function_entry kind_len plain_len entry_len (args_len1 _) ?_
            unfold Builtin.«len»
            refine wpAny_bind (m := oneArg "len" _) (wpAny_pure ?_)
            refine wpAny_bind (m := callSpecial? (.ref a) (PySem.Str.ofString "__len__")) (special_fn J.kIn J1 D'.mt.at_ D'.mt.fn (thn (run_in1 D'.c hr hgd sp1 J rr) fun r s' hq => ?_))
            obtain ⟨v', H', I2, rv, rfl, q2⟩ := hq
            obtain ⟨t, rfl⟩ := rv
            refine wpAny_bind (wpAny_holding (wpAny_pure ?_))
            refine wpAny_bind (wpAny_letGo ?_)
            show wpAny _ _ (if n < 0 then _ else _) _ _ _
            rw [if_neg (by omega)]
            show wpAny _ _ (if n ≥ 2 ^ 63 then _ else _) _ _ _
            rw [if_neg (by omega)]
            exact wpAny_bind (wpAny_mkInt (wpAny_pure ⟨_, rfl, .int n, H', I2.tok _, ⟨_, rfl⟩, q2⟩))
          · have P3 : Rs.post (if 0 ≤ n ∧ n < 1000000 then Rs.ok (T.d (.int n)) env1 else .stuck) (okE X F ps σ G Q) (exP X W F ps G1) := P3
            rw [if_neg hn] at P3; exact P3.elim
        | _ => exact P3.elim
      | _ => exact P3.elim
    · rw [if_neg hz] at P1; exact P1.elim)
end
end Dn

/-! our own instances read, not frozen -/
namespace Dn
open PySem PySem.Spec PyProof.Rows L2
def instT (C : Str) : T → Bool
  | .inst C' _ _ => decide (C' = C)
  | .d x => instC C x
  | _ => false
theorem instT_is {K : PySem.W.Frag} {G H : Hp} {B : List Addr} {C : Str} {v : V} {y : T} (s : Same G H) (h : TIs K G H v y B) (e : instT C y = true) : ∃ a dx fs, v = .ref a ∧ H a = some (.ins (He.ga K C) dx fs) := by
  cases h with
  | d h =>
    obtain ⟨a, dx, fs, e1, e2⟩ := instC_is h e
    exact ⟨a, dx, fs, e1, s _ _ e2⟩
  | @inst a dx C' fs ns ts A ha hn r =>
    have e1 : C' = C := of_decide_eq_true e
    subst e1
    exact ⟨a, dx, fs, rfl, ha⟩
  | _ => cases e
/-- a getter of our own instance -/
def dPropO (C : Str) (Fn' : Fn) (i : Nat) : DE := fun env => if ((treeS (getS env i)).map (instT C)) = some true then noX (callO [true] Fn' [] [.inr i] env) else .stuck
def dLenOO (C : Str) (Fn' : Fn) (i : Nat) : DE := fun env => if ((treeS (getS env i)).map (instT C)) = some true then (noX (callO [true] Fn' [] [.inr i] env)).bind tN else .stuck
def dIxQ (f1 f2 : Ev → Option D) : DE := fun env => match f1 env, f2 env with
  | some x, some y => ofD (ixD x y) env
  | _, _ => .stuck
def dAppTmp (d1 d2 : DE) : DE := fun env => (d1 env).bind fun t env => match t with
  | .lst ds => (d2 env).bindD fun _ env => if ds.length < 1000000 then .ok (.d .none) env else .stuck
  | _ => .stuck
theorem noX_ok {α : Type} {r : Rs α} {ok : α → Ev → Prop} {ex ex' : XC → Fds → Ev → Prop} (P : (noX r).post ok ex) : r.post ok ex' := by
  cases r with
  | ok a e => exact P
  | exc c fs e => exact P.elim
  | stuck => exact P.elim
section
variable {X : Cx} {W : WX} {C m x : Str} {Fn' : Fn} {i k : Nat} {qs : List Str} {p pos apos cpos : Pos} {e e2 o : Expr} {f1 f2 : Ev → Option D} {d d2 : DE}
theorem SE.propO (hr : Room (k + 1) X.A) (hgd : X.A.guards = some []) (D' : DefP X.prog X.w X.K X.mg X.base C m k qs (spF X.K [true] Fn')) (hab : attributeBase (.Name x p) m X.env (eval (.Name x p) X.env) = eval (.Name x p) X.env) (n : Nm X.N X.env.scope i x) : SE X W (.Attribute (.Name x p) m pos) (dPropO C Fn' i) := fun F ps σ G H A Q env I R P => .of fun pins s J => by
  unfold dPropO at P
  by_cases hz : ((treeS (getS env i)).map (instT C)) = some true
  · rw [if_pos hz] at P
    obtain ⟨t0, q0, q1⟩ := Option.map_eq_some_iff.mp hz
    obtain ⟨v, B, C0, hv1, ht1, _, _⟩ := I.tree q0
    obtain ⟨a, dx, fs, rfl, ha1⟩ := instT_is R.gh ht1 q1
    let K1 : VK := fun v H1 => ∀ (u : Value) (s1 : Shared), Inv X pins σ H1 s1 → RelV v u → wpAny (model X.prog X.w) X.A (getAttr u m true) (EP X pins σ Q) X.xe s1
    have main : RunE X (.Name x p) σ H K1 := PE.go (pe_var n.1 (vis_of n.2) n.3 n.4) ⟨_, hv1, by
      intro u sh J1 ru
      cases ru
      exact run_prop J1 ha1 D' hr hgd (sp_own (W := fun _ _ _ _ => False) (dvs := []) (as := [.inr i]) (vs := [.ref a]) I R ⟨hv1, trivial⟩ (noX_ok P))⟩
    exact attr_of hab (thn (main.r pins s J) fun u s1 ⟨v, H1, J1, r, q⟩ => q u s1 J1 r)
  · rw [if_neg hz] at P; exact P.elim
theorem SE.lenOO (hr : Room (k + 1) X.A) (hgd : X.A.guards = some []) (D' : DefM X.prog X.w X.K X.mg X.base C "__len__" k qs [] (spF X.K [true] Fn')) (hm : X.mg "len" = none) (hg : Gl X "len") (he : starEach [.Name x p] X.env = (false, eval (.Name x p) X.env) :: starEach [] X.env) (hpl : (backTo cpos (starEach [] X.env)).any (·.1) = false) (n : Nm X.N X.env.scope i x) : SE X W (.Call (.Name "len" pos) [.Name x p] [] cpos) (dLenOO C Fn' i) := fun F ps σ G H A Q env I R P =>
  PE.go (pe_callB cr_run hg hm (show bootBuiltins "len" = some (.builtin "len") by decide +kernel) (pa_cons pe_run pa_nil he) (by decide) rfl he hpl) (by
    unfold dLenOO at P
    by_cases hz : ((treeS (getS env i)).map (instT C)) = some true
    · rw [if_pos hz] at P
      obtain ⟨t0, q0, q1⟩ := Option.map_eq_some_iff.mp hz
      obtain ⟨v, B, C0, hv1, ht1, _, _⟩ := I.tree q0
      obtain ⟨a, dx, fs, rfl, ha1⟩ := instT_is R.gh ht1 q1
      refine PE.go (pe_var n.1 (vis_of n.2) n.3 n.4) ⟨_, hv1, ?_⟩
      intro pins s τ us J rr
      obtain ⟨u, rfl, ru⟩ := vals1 rr
      cases ru
      obtain ⟨m1, O1, _⟩ := ins_get J.hok ha1
      obtain ⟨od, J1, _⟩ := O1.look
      have P2 : (Dn.callO [true] Fn' [] [.inr i] env).post (okE X F ps σ G fun v H' => ∃ n : Int, v = .int n ∧ 0 ≤ n ∧ n < 1000000 ∧ Q (.int n) H') (exP X (fun _ _ _ _ => False) F ps G) := by
        cases q : Dn.callO [true] Fn' [] [.inr i] env with
        | stuck => rw [q] at P; exact P.elim
        | exc c fs e => rw [q] at P; exact P.elim
        | ok t e1 =>
          rw [q] at P
          have P : Rs.post (tN t e1) (okE X F ps σ G Q) (exP X W F ps G) := P
          unfold tN at P
          intro v G' H' A' B' s I' i' R'
          cases t with
          | d z =>
            cases z with
            | int n =>
              by_cases hn : 0 ≤ n ∧ n < 1000000
              · have P : Rs.post (if 0 ≤ n ∧ n < 1000000 then Rs.ok (T.d (.int n)) e1 else .stuck) (okE X F ps σ G Q) (exP X W F ps G) := P
                rw [if_pos hn] at P
                cases i' with
                | d i' =>
                  cases i'
                  exact ⟨n, rfl, hn.1, hn.2, P _ G' H' A' [] s I' (.d (.int n)) R'⟩
              · have P : Rs.post (if 0 ≤ n ∧ n < 1000000 then Rs.ok (T.d (.int n)) e1 else .stuck) (okE X F ps σ G Q) (exP X W F ps G) := P
                rw [if_neg hn] at P; exact P.elim
            | _ => exact P.elim
          | _ => exact P.elim
      have sp1 := sp_own (W := fun _ _ _ _ => False) (dvs := []) (as := [.inr i]) (vs := [.ref a]) I R ⟨hv1, trivial⟩ P2
      refine Calls.call_function_entry kind_len plain_len entry_len (args_len1 _) ?_
      unfold Builtin.«len»
      refine wpAny_bind (m := oneArg "len" _) (wpAny_pure ?_)
      refine wpAny_bind (m := callSpecial? (.ref a) (PySem.Str.ofString "__len__")) (special_fn J.kIn J1 D'.mt.at_ D'.mt.fn (thn (run_in1 D'.c hr hgd sp1 J rr) fun r s' hq => ?_))
      obtain ⟨v', H', I2, rv, n, rfl, n1, n2, q2⟩ := hq
      obtain ⟨t, rfl⟩ := rv
      refine wpAny_bind (wpAny_holding (wpAny_pure ?_))
      refine wpAny_bind (wpAny_letGo ?_)
      show wpAny _ _ (if n < 0 then _ else _) _ _ _
      rw [if_neg (by omega)]
      show wpAny _ _ (if n ≥ 2 ^ 63 then _ else _) _ _ _
      rw [if_neg (by omega)]
      exact wpAny_bind (wpAny_mkInt (wpAny_pure ⟨_, rfl, .int n, H', I2.tok _, ⟨_, rfl⟩, q2⟩))
    · rw [if_neg hz] at P; exact P.elim)
theorem SQ.neg {n : Int} {k : Nat} : SQ X (.UnaryOp .USub (.Constant (.int n) k p) pos) (fun _ => some (.int (-n))) := fun F ps σ G H A Q env y I R q k => by
  cases q; exact PE.go (pe_un un_neg pe_int) ⟨n, rfl, k _ ((Is.int (-n)).vw R.gh)⟩
theorem SE.ixQ (hu : X.A.units + 64 < cLine) (hs : PlainIx e2) (h1 : SQ X e f1) (h2 : SQ X e2 f2) : SE X W (.Subscript e e2 pos) (dIxQ f1 f2) := fun F ps σ G H A Q env I R P => by
  refine PE.go (pe_ix ixr_run pe_run pe_run hs) ?_
  unfold dIxQ at P
  cases q1 : f1 env with
  | none => rw [q1] at P; exact P.elim
  | some x =>
    cases q2 : f2 env with
    | none => rw [q1, q2] at P; exact P.elim
    | some y =>
      rw [q1, q2] at P
      dsimp only at P
      cases q : ixD x y with
      | none => rw [q] at P; exact P.elim
      | some r =>
        rw [q] at P
        exact h1 F ps σ G H A _ env x I R q1 fun v hv => h2 F ps σ G H A _ env y I R q2 fun u hy => ixD_run hu R hv hy q fun z iz => P z G H A [] (Same.refl G) I (.d iz) R
theorem SE.appTmp (hb : attributeBase e "append" X.env (eval e X.env) = eval e X.env) (hfew : Few X cpos e2 []) (hl : (apos.endLine == cpos.line) = true) (hs : starEach [e2] X.env = (false, eval e2 X.env) :: starEach [] X.env) (hpl : (backTo cpos (starEach [] X.env)).any (·.1) = false)
    (h1 : SE X W e d) (h2 : SE X W e2 d2) : SE X W (.Call (.Attribute e "append" apos) [e2] [] cpos) (dAppTmp d d2) := fun F ps σ G H A Q env I R P => by
  refine PE.go (pe_bm PySem.F.plainAttrs_list PySem.F.slot_list_append PySem.F.type_list_append mt_append pe_run (pa_cons pe_run pa_nil hs) hb hfew hl hs hpl) ?_
  refine h1.seq I R P fun t env1 v G1 H1 A1 B s1 I1 i1 R1 P1 => ?_
  cases t with
  | lst ds =>
    have P1 : Rs.post ((d2 env1).bindD fun _ env => if ds.length < 1000000 then Rs.ok (T.d .none) env else .stuck) (okE X F ps σ G Q) (exP X W F ps G1) := P1
    cases i1 with
    | @lst a xs _ ha r =>
      have R2 : Rel F G1 H1 (A1 ++ [a]) := R1.perm List.perm_append_comm
      have R3 := R2.start (B := A1) (fun b hb => List.mem_append_left _ hb) R2.left.nd
      have P2 := bindD_split (ex' := exP X W ⟨G1, H1, fun b => b ∈ A1⟩ ps G1) (fun c fs e' h => exP_back (F' := F) R2 h) P1
      refine ⟨ty_lst (.lst ha r), h2.seqD I1 R3 P2 fun y env2 u G2 H2 A2 s2 I2 i2 R4 P3 => ?_⟩
      have P3 : Rs.post (if ds.length < 1000000 then Rs.ok (T.d .none) env2 else .stuck) (okE X F ps σ G Q) (exP X W F ps G1) := P3
      by_cases hz : ds.length < 1000000
      · rw [if_pos hz] at P3
        obtain ⟨r5, s5, k5⟩ := Rel.back (B := A1) (A := [a]) R2 R4
        have ha2 : H2 a = some (.lst xs) := by rw [k5 a List.mem_cons_self]; exact ha
        have na : ∀ b ∈ A2, b ≠ a := fun b hb e => r5.dj a List.mem_cons_self (e ▸ hb)
        refine ⟨a, xs, u, rfl, rfl, ha2, by rw [r.length]; exact Nat.lt_trans hz sqLine, ?_⟩
        have r6 : Rel F G2 (upd H2 a (.lst (xs ++ [u]))) (A2 ++ [a]) := r5.put (List.mem_append_right _ List.mem_cons_self)
        exact P3 .non G2 _ A2 [] (s1.trans s2) (I2.up (Same.refl G2) fun b hb => upd_ne (na b hb)) (.d .non) r6.left
      · rw [if_neg hz] at P3; exact P3.elim
  | _ => exact P1.elim
end
end Dn

/-! isinstance of an own class; == of equal data with dicts -/
namespace Dn
open PySem PySem.Spec PyProof.Rows L2
def isF (C : Str) (K : PySem.W.Frag) : Bool := He.eqO (PySem.W.findIn K (.ref (He.ga K C)) "__class__") (some (some (.builtin "object.__class__"))) && (He.eqO (PySem.W.specialIn K (.builtin "object.__class__") "__get__") (some (some (.builtin "getset_descriptor.__get__"))) &&
  (decide (PySem.W.takesIn K (.builtin "object.__class__") = some true) && (decide (PySem.W.mroIn K (He.ga K C) (.type "object") = some true) && decide (PySem.W.kitOne K (.ref (He.ga K C)) (.ref (He.ga K C)) = some true))))
structure IsOf (K : PySem.W.Frag) (C : Str) : Prop where
  ha : PySem.W.findIn K (.ref (He.ga K C)) "__class__" = some (some (.builtin "object.__class__"))
  hn : PySem.W.specialIn K (.builtin "object.__class__") "__get__" = some (some (.builtin "getset_descriptor.__get__"))
  ht : PySem.W.takesIn K (.builtin "object.__class__") = some true
  hm : PySem.W.mroIn K (He.ga K C) (.type "object") = some true
  k : PySem.W.kitOne K (.ref (He.ga K C)) (.ref (He.ga K C)) = some true
theorem isF_ok {K : PySem.W.Frag} {C : Str} (h : isF C K = true) : IsOf K C := by
  obtain ⟨h1, h⟩ := He.ba h
  obtain ⟨h2, h⟩ := He.ba h
  obtain ⟨h3, h⟩ := He.ba h
  obtain ⟨h4, h5⟩ := He.ba h
  exact ⟨He.eqO_ok h1, He.eqO_ok h2, of_decide_eq_true h3, of_decide_eq_true h4, of_decide_eq_true h5⟩
def dIsO (C : Str) (d : Ev → Rs D) : DE := fun env => (d env).bind fun x env => if instC C x = true then .ok (.d (.bool true)) env else .stuck
section
variable {X : Cx} {W : WX} {C : Str} {e : Expr} {p p2 pos : Pos} {d : Ev → Rs D}
theorem SE.isaO (N : IsOf X.K C) (cl : Cls X.K (He.ga X.K C)) (hm : X.mg "isinstance" = none) (hC : X.mg C = some (.ref (He.ga X.K C))) (hg : Gl X "isinstance") (hg2 : Gl X C) (hd2 : (C == ("__debug__" : Str)) = false) (he : starEach [e, .Name C p2] X.env = (false, eval e X.env) :: starEach [.Name C p2] X.env) (he2 : starEach [.Name C p2] X.env = (false, eval (.Name C p2) X.env) :: starEach [] X.env) (hpl : (backTo pos (starEach [.Name C p2] X.env)).any (·.1) = false)
    (h : SV X W e d) : SE X W (.Call (.Name "isinstance" p) [e, .Name C p2] [] pos) (dIsO C d) := fun F ps σ G H A Q env I R P =>
  PE.go (pe_callB call_isi hg hm boot_isinstance (pa_cons pe_run (pa_cons (pe_glob (v := .ref (He.ga X.K C)) hg2 hC rfl hd2) pa_nil he2) he) (by decide) (by decide) he hpl) (h.seq I R P fun x env1 v G1 H1 A1 s1 I1 i1 R1 P1 => by
    by_cases hz : instC C x = true
    · rw [if_pos hz] at P1
      cases x with
      | inst C' ns ds =>
        have e1 : C' = C := of_decide_eq_true hz
        subst e1
        obtain ⟨a, dx, fs, rfl, ha, _⟩ := i1.inst _ _ _ rfl
        exact ⟨_, _, _, _, true, rfl, .own _, .base (.ins ha cl N.ha N.hn N.ht N.hm), N.k, (okO_of I1 R1 s1 P1).data (.bl true) R1⟩
      | _ => cases hz
    · rw [if_neg hz] at P1; exact P1.elim)
end
/-! ### == of equal data -/
mutual
def eqDep : D → Option Nat
  | .none => some 0
  | .bool _ => some 0
  | .int _ => some 0
  | .str _ => some 0
  | .list ds => (eqDepL ds).map (· + 1)
  | .tup ds => (eqDepL ds).map (· + 1)
  | .dict _ ds => (eqDepL ds).map (· + 1)
  | _ => none
def eqDepL : List D → Option Nat
  | [] => some 0
  | d :: ds => match eqDep d, eqDepL ds with
    | some a, some b => some (max a b)
    | _, _ => none
end
theorem eqDepL_mem : ∀ {ds : List D} {m : Nat}, eqDepL ds = some m → ∀ d ∈ ds, ∃ k, eqDep d = some k ∧ k ≤ m
  | [], _, _, d, h => by cases h
  | d0 :: ds, m, e, d, h => by
    unfold eqDepL at e
    cases q1 : eqDep d0 with
    | none => rw [q1] at e; cases e
    | some a =>
      cases q2 : eqDepL ds with
      | none => rw [q1, q2] at e; cases e
      | some b =>
        rw [q1, q2] at e
        cases e
        rcases List.mem_cons.mp h with rfl | h
        · exact ⟨a, q1, Nat.le_max_left _ _⟩
        · obtain ⟨k, h1, h2⟩ := eqDepL_mem q2 d h
          exact ⟨k, h1, Nat.le_trans h2 (Nat.le_max_right _ _)⟩
def SamD (K : PySem.W.Frag) (G : Hp) (n : Nat) (x y : V) : Prop := ∃ d m, eqDep d = some m ∧ m ≤ n ∧ Is K G x d ∧ Is K G y d
section
variable {X : Cx} {pins : List (Addr × Obj)} {σ : L2.St} {G H : Hp} {s : Shared}
theorem lookK_nd {K : Type} [DecidableEq K] : ∀ {ks : List K} {ds : List D} {i : Nat} {k : K} {d : D}, ks.Nodup → ks[i]? = some k → ds[i]? = some d → lookK ks ds k = some d
  | [], _, _, _, _, _, h, _ => by simp at h
  | _ :: _, [], _, _, _, _, _, h => by simp at h
  | k0 :: ks, d0 :: ds, 0, k, d, nd, h1, h2 => by
    simp at h1 h2; subst h1 h2
    unfold lookK; rw [if_pos rfl]
  | k0 :: ks, d0 :: ds, i + 1, k, d, nd, h1, h2 => by
    obtain ⟨n1, n2⟩ := List.nodup_cons.mp nd
    simp at h1 h2
    have : k0 ≠ k := fun e => n1 (e ▸ List.mem_of_getElem? h1)
    unfold lookK; rw [if_neg this]
    exact lookK_nd n2 h1 h2
theorem items_same {A : Around} {n : Nat} (ih : ∀ x y v u, SamD X.K G n x y → RelV x v → RelV y u → SeqAt.EqP X.prog X.w A s v u true) {ds : List D} {m : Nat} (hd : eqDepL ds = some m) (hm : m ≤ n) {xs ys : List V} (r1 : IsL X.K G xs ds) (r2 : IsL X.K G ys ds) {its its2 : List Value} (v1 : Vals xs its) (v2 : Vals ys its2)
    (i : Nat) (h1 : i < its.toArray.size) (h2 : i < its2.toArray.size) : SeqAt.EqP X.prog X.w A s its.toArray[i] its2.toArray[i] true := by
  have k1 : i < xs.length := by rw [v1.length]; simpa using h1
  have k2 : i < ys.length := by rw [v2.length]; simpa using h2
  obtain ⟨u, hu, ru⟩ := v1.get (List.getElem?_eq_getElem k1)
  obtain ⟨v, hv, rv⟩ := v2.get (List.getElem?_eq_getElem k2)
  obtain ⟨d, hd1, i1⟩ := r1.get (List.getElem?_eq_getElem k1)
  obtain ⟨d', hd2, i2⟩ := r2.get (List.getElem?_eq_getElem k2)
  rw [hd1] at hd2
  cases hd2
  obtain ⟨k, e1, e2⟩ := eqDepL_mem hd d (List.mem_of_getElem? hd1)
  have g1 : its[i]? = some its.toArray[i] := by
    have h1' : i < its.length := by simpa using h1
    rw [List.getElem?_eq_getElem h1'] <;> simp
  have g2 : its2[i]? = some its2.toArray[i] := by
    have h2' : i < its2.length := by simpa using h2
    rw [List.getElem?_eq_getElem h2'] <;> simp
  rw [g1] at hu
  rw [g2] at hv
  rw [Option.some.inj hu, Option.some.inj hv]
  exact ih _ _ _ _ ⟨d, k, e1, Nat.le_trans e2 hm, i1, i2⟩ ru rv
theorem tup_same (I : Inv X pins σ H s) {A : Around} {n : Nat} (hu : A.units < cLine) (ih : ∀ x y v u, SamD X.K G n x y → RelV x v → RelV y u → SeqAt.EqP X.prog X.w A.in1 s v u true) {ds : List D} {m : Nat} (hd : eqDepL ds = some m) (hm : m ≤ n) {a b : Addr} {xs ys : List V} (ha : H a = some (.tup xs)) (hb : H b = some (.tup ys)) (r1 : IsL X.K G xs ds) (r2 : IsL X.K G ys ds)
    (E Q : Value → Shared → Prop) (q : Q (.bool true) s) : wpAny (model X.prog X.w) A (richCompare .Eq (.ref a) (.ref b)) Q E s := by
  obtain ⟨its, rv1, e1, z1⟩ := I.tuple (SqT.of ha)
  obtain ⟨its2, rv2, e2, z2⟩ := I.tuple (SqT.of hb)
  have hsz : its.toArray.size = its2.toArray.size := by rw [List.size_toArray, List.size_toArray, ← rv1.length, ← rv2.length, r1.length, r2.length]
  exact GQ.rc_tupG hsz hu (fun _ s' => s' = s) e1 e2 (fun i h1 h2 s' hs => by
    subst hs
    exact items_same ih hd hm r1 r2 rv1 rv2 i h1 h2 E _ ⟨rfl, rfl⟩) (fun s' hs => by rw [hs]; exact q) rfl
theorem same_run (I : Inv X pins σ H s) (gh : Same G H) : ∀ (n : Nat) (A : Around), A.units + n < cLine → ∀ (x y : V) (v u : Value), SamD X.K G n x y → RelV x v → RelV y u → SeqAt.EqP X.prog X.w A s v u true := by
  intro n
  induction n with
  | zero =>
    intro A hu x y v u ⟨d, m, e, hm, i1, i2⟩ rx ry
    cases d with
    | none => rw [i1.noneE] at rx; rw [i2.noneE] at ry; exact (eqAt_same rx ry rfl).eqP
    | bool => rw [i1.boolE] at rx; rw [i2.boolE] at ry; exact (eqAt_same rx ry rfl).eqP
    | int => rw [i1.intE] at rx; rw [i2.intE] at ry; exact (eqAt_same rx ry rfl).eqP
    | str => rw [i1.strE] at rx; rw [i2.strE] at ry; exact (eqAt_same rx ry rfl).eqP
    | list ds => obtain ⟨k, _, rfl⟩ := Option.map_eq_some_iff.mp (show (eqDepL ds).map (· + 1) = some m from e); omega
    | tup ds => obtain ⟨k, _, rfl⟩ := Option.map_eq_some_iff.mp (show (eqDepL ds).map (· + 1) = some m from e); omega
    | dict ks ds => obtain ⟨k, _, rfl⟩ := Option.map_eq_some_iff.mp (show (eqDepL ds).map (· + 1) = some m from e); omega
    | _ => cases e
  | succ n ih =>
    intro A hu x y v u ⟨d, m, e, hm, i1, i2⟩ rx ry
    have ih1 := ih A.in1 (by show A.units + 1 + n < cLine; omega)
    cases d with
    | none => rw [i1.noneE] at rx; rw [i2.noneE] at ry; exact (eqAt_same rx ry rfl).eqP
    | bool => rw [i1.boolE] at rx; rw [i2.boolE] at ry; exact (eqAt_same rx ry rfl).eqP
    | int => rw [i1.intE] at rx; rw [i2.intE] at ry; exact (eqAt_same rx ry rfl).eqP
    | str => rw [i1.strE] at rx; rw [i2.strE] at ry; exact (eqAt_same rx ry rfl).eqP
    | list ds =>
      obtain ⟨k, ek, rfl⟩ := Option.map_eq_some_iff.mp (show (eqDepL ds).map (· + 1) = some m from e)
      obtain ⟨a, xs, rfl, ha, r1⟩ := i1.listE
      obtain ⟨b, ys, rfl, hb, r2⟩ := i2.listE
      cases (show v = Value.ref a from rx)
      cases (show u = Value.ref b from ry)
      by_cases hab : a = b
      · subst hab; exact (SeqAt.EqAt.same _).eqP
      · refine SeqAt.eqP_refs hab fun E Q q => ?_
        obtain ⟨its, rv1, p1, _⟩ := I.list (SqL.of (gh _ _ ha))
        obtain ⟨its2, rv2, p2, _⟩ := I.list (SqL.of (gh _ _ hb))
        have hsz : its.toArray.size = its2.toArray.size := by rw [List.size_toArray, List.size_toArray, ← rv1.length, ← rv2.length, r1.length, r2.length]
        refine SeqAt.rcP_lists (e := fun _ => true) p1.isList p2.isList hsz (by omega) (fun j h1 h2 => items_same ih1 ek (by omega) r1 r2 rv1 rv2 j h1 h2) E Q ?_
        rw [show ((List.range its.toArray.size).all fun _ => true) = true from List.all_eq_true.mpr fun _ _ => rfl]
        exact q
    | tup ds =>
      obtain ⟨k, ek, rfl⟩ := Option.map_eq_some_iff.mp (show (eqDepL ds).map (· + 1) = some m from e)
      obtain ⟨a, xs, rfl, ha, r1⟩ := i1.tupE
      obtain ⟨b, ys, rfl, hb, r2⟩ := i2.tupE
      cases (show v = Value.ref a from rx)
      cases (show u = Value.ref b from ry)
      by_cases hab : a = b
      · subst hab; exact (SeqAt.EqAt.same _).eqP
      · exact SeqAt.eqP_refs hab fun E Q q => tup_same I (by omega) ih1 ek (by omega) (gh _ _ ha) (gh _ _ hb) r1 r2 E Q q
    | dict ks ds =>
      obtain ⟨k, ek, rfl⟩ := Option.map_eq_some_iff.mp (show (eqDepL ds).map (· + 1) = some m from e)
      obtain ⟨a, od, kv, rfl, ha, hk1, r1⟩ := i1.dictE
      obtain ⟨b, od2, kv2, rfl, hb, hk2, r2⟩ := i2.dictE
      cases (show v = Value.ref a from rx)
      cases (show u = Value.ref b from ry)
      by_cases hab : a = b
      · subst hab; exact (SeqAt.EqAt.same _).eqP
      · refine SeqAt.eqP_refs hab fun E Q q => ?_
        obtain ⟨_, ya, va, ra, da⟩ := dk_rd I.hok (show Rd H a (.dK kv) from .inr ⟨od, gh _ _ ha⟩)
        obtain ⟨_, yb, vb, rb, db⟩ := dk_rd I.hok (show Rd H b (.dK kv2) from .inr ⟨od2, gh _ _ hb⟩)
        have nd2 : (kv2.map (·.1)).Nodup := by rw [rb.keys]; exact dictOf_nd db
        refine PySem.W.rcP_dicts (knd := mixKind X.prog X.w) (r := true) ya yb da db (by omega) (fun _ => hits_run ih1 rb ra fun p hp => ?_) E Q ?_
        · obtain ⟨j, hj, ej⟩ := List.mem_iff_getElem.mp hp
          have g1 : (kv.map (·.1))[j]? = some p.1 := by rw [List.getElem?_map, List.getElem?_eq_getElem hj, ej]; rfl
          have g2 : (kv.map (·.2))[j]? = some p.2 := by rw [List.getElem?_map, List.getElem?_eq_getElem hj, ej]; rfl
          obtain ⟨d, hd, id⟩ := r1.get g2
          rw [hk1] at g1
          have lk : lookK (kv2.map (·.1)) ds p.1 = some d := lookK_nd nd2 (by rw [hk2]; exact g1) hd
          obtain ⟨w, e1, e2⟩ := lookK_val r2 lk
          obtain ⟨k', f1, f2⟩ := eqDepL_mem ek d (List.mem_of_getElem? hd)
          exact ⟨w, e1, d, k', f1, by omega, id, e2⟩
        · have el : va.length = vb.length := by
            rw [← ra.length, ← rb.length]
            have := congrArg List.length (hk1.trans hk2.symm)
            rw [List.length_map, List.length_map] at this
            exact this
          rw [show (va.length == vb.length && true) = true from by rw [el]; simp]
          exact q
    | _ => cases e
end
open Classical in
noncomputable def oEqS (x y : D) : Option T := match eqD x y with
  | some b => some (.d (.bool b))
  | none => (match x with
    | .tup ds => if y = .tup ds ∧ ∃ m, eqDepL ds = some m ∧ m ≤ 50 then some (.d (.bool true)) else none
    | _ => none)
theorem ov_eqS {X : Cx} (hu : X.A.units + 64 < cLine) : OpV X (compareOp .Eq) oEqS := fun F A G H x y a b t Q R h1 h2 e k => by
  unfold oEqS at e
  cases q : eqD a b with
  | some z =>
    rw [q] at e
    exact ov_eq hu F A G H x y a b t Q R h1 h2 (by show (eqD a b).map _ = some t; rw [q]; exact e) k
  | none =>
    rw [q] at e
    cases a with
    | tup ds =>
      dsimp only at e
      split at e
      · rename_i hz
        cases e
        obtain ⟨rfl, m, em, hm⟩ := hz
        obtain ⟨p, xs, rfl, hp, r1⟩ := h1.tup _ rfl
        obtain ⟨p2, ys, rfl, hp2, r2⟩ := h2.tup _ rfl
        intro pins s τ v u I rx ry
        cases (show v = Value.ref p from rx)
        cases (show u = Value.ref p2 from ry)
        exact tup_same I (by omega) (same_run I R.gh 50 X.A.in1 (by show X.A.units + 1 + 50 < cLine; omega)) em hm hp hp2 r1 r2 _ _ ⟨.bl true, H, I, rfl, k.data (.bl true) R⟩
      · cases e
    | _ => cases e
end Dn

/-! a, b, c = x, y, z: trees of our own -/
namespace Dn
open PySem PySem.Spec PyProof.Rows L2
def dPar3T (i j l : Nat) (d1 d2 d3 : DE) : DS := fun env => (d1 env).bind fun t env => (d2 env).bind fun u env => (d3 env).bind fun w env => nxO ((putS i t env).bind fun env => (putS j u env).bind fun env => putS l w env)
section
variable {X : Cx} {W : WX} {F : Fm} {ps : List V} {σ : L2.St} {G H : Hp} {A B C : List Addr} {env : Ev} {e1 e2 e3 : Expr} {d1 d2 d3 : DE} {x y z : Str} {pos px py pz pt p : Pos} {i j l : Nat} {kt k2 : Nat}
theorem put_keep {t : T} {v : V} {env' : Ev} (I : EvIs X.K G H ps σ env A) (R : Rel F G H (B ++ (A ++ C))) (h : TIs X.K G H v t B) (e : putS i t env = some env') : ∃ A', EvIs X.K G H ps (σ.set i (some v)) env' A' ∧ Rel F G H (A' ++ C) := by
  unfold putS at e
  by_cases hp : isPar (getS env i) = true
  · rw [if_pos hp] at e; cases e
  · rw [if_neg hp] at e
    cases e
    rw [← List.append_assoc] at R
    obtain ⟨A', _, I', m, n, _⟩ := I.put (by simpa using hp) h
    refine ⟨A', I', R.sub (fun a ha => (List.mem_append.mp ha).elim (fun z => List.mem_append_left _ (m a z)) (List.mem_append_right _)) ?_⟩
    obtain ⟨a1, a2, a3⟩ := List.nodup_append.mp R.nd
    exact List.nodup_append.mpr ⟨n a1, a2, fun a ha b hb => a3 a (m a ha) b hb⟩
theorem SS.par3T (hc : X.calm = true) (hN : X.N.Nodup) (hi : X.N[i]? = some x) (hj : X.N[j]? = some y) (hl : X.N[l]? = some z) (hij : i ≠ j) (hil : i ≠ l) (hjl : j ≠ l) (hx : X.env.scope.names.lookup x = some .local) (hy : X.env.scope.names.lookup y = some .local) (hz : X.env.scope.names.lookup z = some .local)
    (hw : swappedStores [.Tuple [.Name x px, .Name y py, .Name z pz] kt pt] (.Tuple [e1, e2, e3] k2 p) X.env = pure (some [x, y, z])) (hs : swapsWithSole [.Tuple [.Name x px, .Name y py, .Name z pz] kt pt] (.Tuple [e1, e2, e3] k2 p) pos.line X.env = pure false)
    (he : starEach [e1, e2, e3] X.env = (false, eval e1 X.env) :: starEach [e2, e3] X.env) (he2 : starEach [e2, e3] X.env = (false, eval e2 X.env) :: starEach [e3] X.env) (he3 : starEach [e3] X.env = (false, eval e3 X.env) :: starEach [] X.env)
    (h1 : SE X W e1 d1) (h2 : SE X W e2 d2) (h3 : SE X W e3 d3) : SS X W (.Assign [.Tuple [.Name x px, .Name y py, .Name z pz] kt pt] (.Tuple [e1, e2, e3] k2 p) pos) (dPar3T i j l d1 d2 d3) := fun F ps σ G H A D env I R P => by
  refine PS.go (ps_par3 hc hN hi hj hl hij hil hjl hx hy hz (pa_cons pe_run (pa_cons pe_run (pa_cons pe_run pa_nil he3) he2) he) hw hs) ?_
  refine h1.seq I R P fun t env1 v G1 H1 A1 B1 s1 I1 i1 R1 P1 => ?_
  refine h2.seqF (B := B1) I1 (R1.perm List.perm_append_comm) P1 fun u env2 v2 G2 H2 A2 B2 s2 I2 i2 R2 k2 P2 => ?_
  have R2' : Rel F G2 H2 (A2 ++ (B1 ++ B2)) := R2.perm (by
    have := List.perm_append_comm (l₁ := B2) (l₂ := A2 ++ B1)
    rw [List.append_assoc] at this
    exact this)
  refine h3.seqF (B := B1 ++ B2) I2 R2' P2 fun w env3 v3 G3 H3 A3 B3 s3 I3 i3 R3 k3 P3 => ?_
  refine ⟨v, v2, v3, rfl, ?_⟩
  cases q : (putS i t env3).bind fun env => (putS j u env).bind fun env => putS l w env with
  | none => rw [q] at P3; exact P3.elim
  | some env6 =>
    rw [q] at P3
    obtain ⟨env4, q1, q2⟩ := Option.bind_eq_some_iff.mp q
    obtain ⟨env5, q3, q4⟩ := Option.bind_eq_some_iff.mp q2
    have i1' := (i1.up (H' := H2) s2 k2).up (H' := H3) s3 fun a ha => k3 a (List.mem_append_left _ ha)
    have i2' := i2.up (H' := H3) s3 fun a ha => k3 a (List.mem_append_right _ ha)
    have R4 : Rel F G3 H3 (B1 ++ (A3 ++ (B2 ++ B3))) := R3.perm (by
      have h1 : (B3 ++ (A3 ++ (B1 ++ B2))).Perm ((A3 ++ (B1 ++ B2)) ++ B3) := List.perm_append_comm
      have h2 : ((A3 ++ (B1 ++ B2)) ++ B3).Perm (B1 ++ (A3 ++ (B2 ++ B3))) := by
        rw [List.append_assoc, List.append_assoc]
        exact perm3 A3 B1 (B2 ++ B3)
      exact h1.trans h2)
    obtain ⟨A4, I4, R5⟩ := put_keep I3 R4 i1' q1
    have R6 : Rel F G3 H3 (B2 ++ (A4 ++ B3)) := R5.perm (perm3 A4 B2 B3)
    obtain ⟨A5, I5, R7⟩ := put_keep I4 R6 i2' q3
    have R8 : Rel F G3 H3 (B3 ++ (A5 ++ [])) := R7.perm (by rw [List.append_nil]; exact List.perm_append_comm)
    obtain ⟨A6, I6, R9⟩ := put_keep I5 R8 i3 q4
    rw [List.append_nil] at R9
    exact P3 _ G3 H3 A6 ((s1.trans s2).trans s3) I6 R9
end
end Dn

/-! zip(a, b, strict=True), zip(a, b, strict=False): the iterator -/
namespace ZK
open PySem PySem.Spec PyProof.Rows
open Builtin.SmallTypes (nextOrEnd nextOf stopIteration)
/-- a zip with its flag -/
abbrev ZB (b : Bool) (h : Heap) (z ti tu : Addr) (f : Value) : Prop := h.get? z = some { cls := .type "zip", dict := none, data := .fields #[f, .bool false, .bool b, .ref ti, .ref tu], slots := #[] }
section
variable {prog : Program} {w : World} {A : Around} {E : Value → Shared → Prop} {s : Shared} {it z ti tu j1 j2 : Addr} {fp f1 f2 : List Addr} {n n1 n2 i : Nat} {P P1 P2 : Nat → Value → Prop} {St S1 S2 : Nat → Heap → Prop} {x0 y0 : Value}
theorem noe_some {Q : Option Value → Shared → Prop} (D : Draws prog w A it fp n P St) (hi : i < n) (st : St i s.heap) (q : ∀ x h1 tk, P i x → St (i + 1) h1 → Heap.SameBut it s.heap h1 → Q (some x) { s with heap := h1, toks := tk }) : wpAny (model prog w) A (nextOrEnd (.ref it)) Q E s := by
  unfold nextOrEnd
  exact wpAny_bind (wpAny_attempt (D.item i s _ _ hi st fun x h1 tk p st1 sb => wpAny_pure (q x h1 tk p st1 sb)))
theorem noe_none {Q : Option Value → Shared → Prop} (D : Draws prog w A it fp n P St) (st : St n s.heap) (q : ∀ h1, Heap.ExtBut it s.heap h1 → Q none { s with heap := h1 }) : wpAny (model prog w) A (nextOrEnd (.ref it)) Q E s := by
  unfold nextOrEnd
  refine wpAny_bind (wpAny_attempt (D.done s _ _ st fun h1 e xb he => ?_))
  exact wpAny_bind (wpAny_isInstance (T := "StopIteration") (b := true) he isSubtype_stop (wpAny_pure (q h1 xb)))
theorem stop_at {α : Type} {Q : α → Shared → Prop} (hh : A.handled = none) (q : ∀ h1 e, (∀ c o, s.heap.get? c = some o → h1.get? c = some o) → (∃ o, h1.get? e = some o ∧ o.cls = .type "StopIteration") → E (.ref e) { s with heap := h1 }) : wpAny (model prog w) A (stopIteration (α := α)) Q E s := by
  unfold stopIteration
  refine wpAny_bind ?_
  simp only [newExc, newTuple]
  refine wpAny_bind (wpAny_newObj_type ?_ (by size_fits))
  refine wpAny_bind (m := firstArgMember _ _) (wpAny_of_eq (a := Value.none) (by first | rfl | (simp only [firstArgMember]; rfl)) ?_)
  refine wpAny_newObj_type ?_ (by size_fits)
  simp only [raiseNew]
  refine wpAny_bind (wpAny_handled ?_)
  rw [hh]
  refine wpAny_bind (wpAny_pure (wpAny_throw ?_))
  exact q _ _ (fun c o e => Heap.get?_push_of_some _ (Heap.get?_push_of_some _ e)) ⟨_, Heap.get?_push_size _ rfl, rfl⟩
theorem next_item {Q : Value → Shared → Prop} (S : ZipSep2 z ti tu j1 j2 f1 f2) (D1 : Draws prog w A j1 f1 n1 P1 S1) (D2 : Draws prog w A j2 f2 n2 P2 S2)
    (hz : ZB true s.heap z ti tu .none) (hti : IsTupOf2 s.heap ti (.ref j1) (.ref j2)) (htu : IsTupOf2 s.heap tu x0 y0) (t1 : S1 i s.heap) (t2 : S2 i s.heap) (l1 : i < n1) (l2 : i < n2)
    (q : ∀ x y h1 tk, P1 i x → P2 i y → ZB true h1 z ti tu (rawInt s.heap.objs.size) → IsTupOf2 h1 tu x y → S1 (i + 1) h1 → S2 (i + 1) h1 → IsTupOf2 h1 s.heap.objs.size x y → h1.objs.size = s.heap.objs.size + 1 →
      (∀ c o, c ≠ z → c ≠ tu → c ≠ j1 → c ≠ j2 → s.heap.get? c = some o → h1.get? c = some o) → Q (.ref s.heap.objs.size) { s with heap := h1, toks := tk }) :
    wpAny (model prog w) A (Builtin.«zip.__next__» ⟨[.ref z], []⟩) (fun r s1 => ∃ v, r = .done (.ret v) ∧ Q v s1) E s := by
  obtain ⟨k, gs, dr, t0, os⟩ := s
  show wpAny _ _ (field (.ref z) 2 >>= _) _ _ _
  refine wpAny_bind (wpAny_field hz rfl (x := .bool true) rfl ?_)
  show wpAny _ _ (field (.ref z) 3 >>= _) _ _ _
  refine wpAny_bind (wpAny_field hz rfl (x := .ref ti) rfl (wpAny_bind (wpAny_seqItems hti rfl ?_)))
  show wpAny _ _ (Builtin.SmallTypes.ownedTupleIsFree (.ref z) >>= _) _ _ _
  refine wpAny_bind ?_
  unfold Builtin.SmallTypes.ownedTupleIsFree
  refine wpAny_bind (wpAny_field hz rfl (x := .none) rfl (wpAny_pure ?_))
  simp only [if_true]
  refine wpAny_bind (wpAny_rule (wpAny_bind (wpAny_field hz rfl (x := .ref tu) rfl (wpAny_bind (wpAny_setField_rec hz (by simp) fun k0 z0 b0 => ?_)))))
  replace z0 : ZB true k0 z ti tu .ellipsis := z0
  replace b0 : Heap.SameBut z k k0 := b0
  refine wpAny_bind ?_
  simp only [List.zipIdx_cons, List.zipIdx_nil, List.forIn_cons, List.forIn_nil]
  refine wpAny_bind (wpAny_bind (wpAny_onRaise ?_))
  show wpAny _ _ (nextOrEnd (.ref j1)) _ _ ⟨k0, gs, dr, t0, os⟩
  refine noe_some D1 l1 (D1.over t1 b0 S.zf1) fun x m1 tk1 px u1 c1 => ?_
  replace c1 : Heap.SameBut j1 k0 m1 := c1
  have w1 : IsTupOf2 m1 tu x0 y0 := c1.extBut _ _ S.Ti1 (b0.extBut _ _ S.TOz htu)
  refine wpAny_bind (wpAny_seqItems (s := ⟨m1, gs, dr, tk1, os⟩) w1 rfl (wpAny_bind (updateSeq_IsTupOf2 (s := ⟨m1, gs, dr, tk1, os⟩) w1 fun k1 w2 b1 => ?_)))
  replace w2 : IsTupOf2 k1 tu x y0 := w2
  replace b1 : Heap.SameBut tu m1 k1 := b1
  refine wpAny_bind (wpAny_letGo (wpAny_pure ?_))
  refine wpAny_bind (wpAny_bind (wpAny_onRaise ?_))
  show wpAny _ _ (nextOrEnd (.ref j2)) _ _ ⟨k1, gs, dr, tk1, os⟩
  refine noe_some D2 l2 (D2.over (D2.over (D2.over t2 b0 S.zf2) c1 S.sep1_2) b1 S.Tf2) fun y m2 tk2 py u2 c2 => ?_
  replace c2 : Heap.SameBut j2 k1 m2 := c2
  have w3 : IsTupOf2 m2 tu x y0 := c2.extBut _ _ S.Ti2 w2
  refine wpAny_bind (wpAny_seqItems (s := ⟨m2, gs, dr, tk2, os⟩) w3 rfl (wpAny_bind (updateSeq_IsTupOf2 (s := ⟨m2, gs, dr, tk2, os⟩) w3 fun k2 w4 b2 => ?_)))
  replace w4 : IsTupOf2 k2 tu x y := w4
  replace b2 : Heap.SameBut tu m2 k2 := b2
  refine wpAny_bind (wpAny_letGo (wpAny_pure (wpAny_pure ?_)))
  refine wpAny_bind (wpAny_seqItems (s := ⟨k2, gs, dr, tk2, os⟩) w4 rfl (wpAny_bind (wpAny_newTuple ?_)))
  have sz : k2.objs.size = k.objs.size := by rw [b2.1, c2.1, b1.1, c1.1, b0.1]
  have z2 : ZB true k2 z ti tu .ellipsis := b2.extBut _ _ S.TOz.symm (c2.extBut _ _ S.zi2 (b1.extBut _ _ S.TOz.symm (c1.extBut _ _ S.zi1 z0)))
  have kp : ∀ c o, c ≠ z → c ≠ tu → c ≠ j1 → c ≠ j2 → k.get? c = some o → k2.get? c = some o := fun c o a1 a2 a3 a4 e => b2.extBut _ _ a2 (c2.extBut _ _ a4 (b1.extBut _ _ a2 (c1.extBut _ _ a3 (b0.extBut _ _ a1 e))))
  have r1 : S1 (i + 1) k2 := D1.over (D1.over (D1.over u1 b1 S.Tf1) c2 S.sep2_1) b2 S.Tf1
  have r2 : S2 (i + 1) k2 := D2.over u2 b2 S.Tf2
  have zl : z < k2.objs.size := Heap.lt_size z2
  show wpAny _ _ (Builtin.SmallTypes.ownedTupleHandOut (.ref z) (.ref k2.objs.size) >>= _) _ _ ⟨k2.push { cls := .type "tuple", data := .seq #[x, y] }, gs, dr, tk2, os⟩
  refine wpAny_bind ?_
  unfold Builtin.SmallTypes.ownedTupleHandOut
  have z3 : ZB true (k2.push { cls := .type "tuple", data := .seq #[x, y] }) z ti tu .ellipsis := Heap.get?_push_of_some _ z2
  refine wpAny_bind (wpAny_setField_rec z3 (by simp) fun k3 z4 b3 => ?_)
  replace z4 : ZB true k3 z ti tu (rawInt k2.objs.size) := z4
  refine wpAny_setField_rec z4 (by simp) fun k4 z5 b4 => ?_
  replace z5 : ZB true k4 z ti tu (rawInt k2.objs.size) := z5
  replace b3 : Heap.SameBut z (k2.push { cls := .type "tuple", data := .seq #[x, y] }) k3 := b3
  replace b4 : Heap.SameBut z k3 k4 := b4
  have up : ∀ c o, c ≠ z → k2.get? c = some o → k4.get? c = some o := fun c o a e => b4.extBut _ _ a (b3.extBut _ _ a (Heap.get?_push_of_some _ e))
  have nw : IsTupOf2 k4 k2.objs.size x y := b4.extBut _ _ (Nat.ne_of_gt zl) (b3.extBut _ _ (Nat.ne_of_gt zl) (Heap.get?_push_size _ rfl))
  have s4 : k4.objs.size = k2.objs.size + 1 := by rw [b4.1, b3.1, Heap.size_push]
  rw [sz] at z5 nw s4
  refine wpAny_pure ⟨_, rfl, ?_⟩
  show Q (.ref k2.objs.size) ⟨k4, gs, dr, tk2, os⟩
  rw [sz]
  exact q x y k4 tk2 px py z5 (up _ _ S.TOz w4) (D1.frame _ _ _ r1 fun b hb o e => up b o (fun z' => S.zf1 (z' ▸ hb)) e) (D2.frame _ _ _ r2 fun b hb o e => up b o (fun z' => S.zf2 (z' ▸ hb)) e) nw s4 fun c o a1 a2 a3 a4 e => up c o a1 (kp c o a1 a2 a3 a4 e)
theorem next_end {Q : Fin → Shared → Prop} (hh : A.handled = none) (S : ZipSep2 z ti tu j1 j2 f1 f2) (D1 : Draws prog w A j1 f1 n P1 S1) (D2 : Draws prog w A j2 f2 n P2 S2)
    (hz : ZB true s.heap z ti tu .none) (hti : IsTupOf2 s.heap ti (.ref j1) (.ref j2)) (htu : IsTupOf2 s.heap tu x0 y0) (t1 : S1 n s.heap) (t2 : S2 n s.heap)
    (q : ∀ h1 e, (∀ c o, c ≠ z → c ≠ tu → c ≠ j1 → c ≠ j2 → s.heap.get? c = some o → h1.get? c = some o) → (∃ o, h1.get? e = some o ∧ o.cls = .type "StopIteration") → E (.ref e) { s with heap := h1 }) :
    wpAny (model prog w) A (Builtin.«zip.__next__» ⟨[.ref z], []⟩) Q E s := by
  obtain ⟨k, gs, dr, t0, os⟩ := s
  show wpAny _ _ (field (.ref z) 2 >>= _) _ _ _
  refine wpAny_bind (wpAny_field hz rfl (x := .bool true) rfl ?_)
  show wpAny _ _ (field (.ref z) 3 >>= _) _ _ _
  refine wpAny_bind (wpAny_field hz rfl (x := .ref ti) rfl (wpAny_bind (wpAny_seqItems hti rfl ?_)))
  show wpAny _ _ (Builtin.SmallTypes.ownedTupleIsFree (.ref z) >>= _) _ _ _
  refine wpAny_bind ?_
  unfold Builtin.SmallTypes.ownedTupleIsFree
  refine wpAny_bind (wpAny_field hz rfl (x := .none) rfl (wpAny_pure ?_))
  simp only [if_true]
  refine wpAny_bind (wpAny_rule (wpAny_bind (wpAny_field hz rfl (x := .ref tu) rfl (wpAny_bind (wpAny_setField_rec hz (by simp) fun k0 z0 b0 => ?_)))))
  replace z0 : ZB true k0 z ti tu .ellipsis := z0
  replace b0 : Heap.SameBut z k k0 := b0
  refine wpAny_bind ?_
  simp only [List.zipIdx_cons, List.zipIdx_nil, List.forIn_cons, List.forIn_nil]
  refine wpAny_bind (wpAny_bind (wpAny_onRaise ?_))
  show wpAny _ _ (nextOrEnd (.ref j1)) _ _ ⟨k0, gs, dr, t0, os⟩
  refine noe_none (s := ⟨k0, gs, dr, t0, os⟩) D1 (D1.over t1 b0 S.zf1) fun m1 c1 => ?_
  replace c1 : Heap.ExtBut j1 k0 m1 := c1
  have z1 : ZB true m1 z ti tu .ellipsis := c1 _ _ S.zi1 z0
  refine wpAny_bind (wpAny_setField_rec (s := ⟨m1, gs, dr, t0, os⟩) z1 (by simp) fun k1 _ b1 => ?_)
  replace b1 : Heap.SameBut z m1 k1 := b1
  refine wpAny_bind ?_
  have t22 : S2 n k1 := D2.over (D2.frame _ _ _ (D2.over t2 b0 S.zf2) fun b hb o e => c1 b o (fun x => S.sep1_2 (x ▸ hb)) e) b1 S.zf2
  show wpAny _ _ (forIn (m := Sem) [(Value.ref j2, 1)] _ _ >>= _) _ _ _
  refine wpAny_bind ?_
  simp only [List.forIn_cons, List.forIn_nil]
  refine wpAny_bind (wpAny_bind ?_)
  refine noe_none (s := ⟨k1, gs, dr, t0, os⟩) D2 t22 fun m2 c2 => ?_
  replace c2 : Heap.ExtBut j2 k1 m2 := c2
  refine wpAny_pure (wpAny_pure (wpAny_bind (wpAny_rule (stop_at (s := ⟨m2, gs, dr, t0, os⟩) hh fun h1 e kp he => ?_))))
  exact q h1 e (fun c o a1 a2 a3 a4 x => kp c o (c2 _ _ a4 (b1.extBut _ _ a1 (c1 _ _ a3 (b0.extBut _ _ a1 x))))) he
/-! the flag either way -/
theorem iter_zb {b : Bool} {f : Value} {Q : Value → Shared → Prop} (hz : ZB b s.heap z ti tu f) (q : Q (.ref z) s) : wpAny (model prog w) A (pyIter (.ref z)) Q E s := by
  have ty : s.TypeIs (.ref z) "zip" := ⟨_, hz, rfl⟩
  refine wpAny_pyIter_slot ty F.slot_zip_iter (wpAny_call_entry F.slot_zip_iter ty F.entry_zip_iter ?_ (F.args_zip_iter_1 _))
  show wpAny _ _ (ret (.ref z)) _ _ s
  exact wpAny_pure ⟨_, rfl, "zip", _, ty, F.slot_zip_next.lookup, q⟩
theorem go_zb {b : Bool} {elts : List Expr} {kk : Nat} {pos : Pos} {T : Addr} {Q : Unit → Shared → Prop} (hz : ZB b s.heap z ti tu (rawInt T)) (q : ∀ h1, ZB b h1 z ti tu .none → Heap.SameBut z s.heap h1 → Q () { s with heap := h1 }) :
    wpAny (model prog w) A (letOwnedTupleGo (.Tuple elts kk pos) (.ref z) (.ref T)) Q E s := by
  unfold letOwnedTupleGo
  refine wpAny_bind (wpAny_load hz ?_)
  show wpAny _ _ (if (["enumerate", "zip", "dict_itemiterator", "dict_reverseitemiterator", "odict_iterator", "itertools.zip_longest", "itertools.pairwise"].contains "zip" && (#[rawInt T, .bool false, .bool b, .ref ti, .ref tu] : Array Value)[0]? == some (rawInt T)) = true then _ else _) Q E s
  rw [if_pos (by simp)]
  refine wpAny_bind (wpAny_rule ?_)
  show wpAny _ _ (setField (.ref z) 0 .none) Q E s
  exact wpAny_setField_rec hz (by simp) fun h1 z1 b1 => q h1 z1 b1
theorem pyNext_item {b : Bool} {Q : Option Value → Shared → Prop} (S : ZipSep2 z ti tu j1 j2 f1 f2) (D1 : Draws prog w A.in1 j1 f1 n1 P1 S1) (D2 : Draws prog w A.in1 j2 f2 n2 P2 S2)
    (hz : ZB b s.heap z ti tu .none) (hti : IsTupOf2 s.heap ti (.ref j1) (.ref j2)) (htu : IsTupOf2 s.heap tu x0 y0) (t1 : S1 i s.heap) (t2 : S2 i s.heap) (l1 : i < n1) (l2 : i < n2)
    (q : ∀ x y h1 tk, P1 i x → P2 i y → ZB b h1 z ti tu (rawInt s.heap.objs.size) → IsTupOf2 h1 tu x y → S1 (i + 1) h1 → S2 (i + 1) h1 → IsTupOf2 h1 s.heap.objs.size x y → h1.objs.size = s.heap.objs.size + 1 →
      (∀ c o, c ≠ z → c ≠ tu → c ≠ j1 → c ≠ j2 → s.heap.get? c = some o → h1.get? c = some o) → Q (some (.ref s.heap.objs.size)) { s with heap := h1, toks := tk }) :
    wpAny (model prog w) A (pyNext (.ref z)) Q E s := by
  cases b with
  | false => exact wpAny_pyNext_zipD2_item S D1 D2 hz hti htu t1 t2 l1 l2 q
  | true =>
    have ty : s.TypeIs (.ref z) "zip" := ⟨_, hz, rfl⟩
    unfold pyNext
    exact wpAny_bind (wpAny_attempt (wpAny_callSpecial?_slot (name := Str.ofString "__next__") ty F.slot_zip_next (wpAny_call_entry F.slot_zip_next ty F.entry_zip_next
      (next_item S D1 D2 hz hti htu t1 t2 l1 l2 fun x y h1 tk p1 p2 c1 c2 c3 c4 c5 c6 c7 => wpAny_pure (q x y h1 tk p1 p2 c1 c2 c3 c4 c5 c6 c7)) (F.args_zip_next_1 _))))
theorem pyNext_end {b : Bool} {Q : Option Value → Shared → Prop} (hh : A.handled = none) (S : ZipSep2 z ti tu j1 j2 f1 f2) (D1 : Draws prog w A.in1 j1 f1 n1 P1 S1) (D2 : Draws prog w A.in1 j2 f2 n2 P2 S2)
    (hz : ZB b s.heap z ti tu .none) (hti : IsTupOf2 s.heap ti (.ref j1) (.ref j2)) (htu : IsTupOf2 s.heap tu x0 y0) (t1 : S1 i s.heap) (t2 : S2 i s.heap) (l1 : i ≤ n1) (l2 : i ≤ n2) (le : i = n1 ∨ i = n2) (hb : b = true → n1 = n2)
    (q : ∀ h1 tk, (∀ c o, c ≠ z → c ≠ tu → c ≠ j1 → c ≠ j2 → s.heap.get? c = some o → h1.get? c = some o) → Q none { s with heap := h1, toks := tk }) :
    wpAny (model prog w) A (pyNext (.ref z)) Q E s := by
  cases b with
  | false => exact wpAny_pyNext_zipD2_end S D1 D2 hz hti htu t1 t2 l1 l2 le q
  | true =>
    have e1 : i = n1 := by have := hb rfl; omega
    have e2 : i = n2 := by have := hb rfl; omega
    have ty : s.TypeIs (.ref z) "zip" := ⟨_, hz, rfl⟩
    unfold pyNext
    subst e1
    subst e2
    refine wpAny_bind (wpAny_attempt (wpAny_callSpecial?_slot (name := Str.ofString "__next__") ty F.slot_zip_next (wpAny_call_entry F.slot_zip_next ty F.entry_zip_next (next_end hh S D1 D2 hz hti htu t1 t2 fun h1 e kp he => ?_) (F.args_zip_next_1 _))))
    exact wpAny_bind (wpAny_isInstance (T := "StopIteration") (b := true) he isSubtype_stop (wpAny_pure (q h1 _ kp)))
end
/-! zip(a, b, strict=..) is called -/
theorem typeCall_zk (a b c : Value) : checkTypeCall "zip" ⟨[a, b], [(Str.ofString "strict", c)]⟩ = pure () := by kernel_rfl
theorem newCall_zk (a b c : Value) : checkBuiltinCall "zip.__new__" ⟨[.type "zip", a, b], [(Str.ofString "strict", c)]⟩ = pure () := by kernel_rfl
theorem args_zk (o a b c : Value) : argsOk "object.__init__" ⟨[o, a, b], [(Str.ofString "strict", c)]⟩ := by
  unfold argsOk; rw [signature?_of (id := "object.__init__") (n := ['_', '_', 't', 'i', 'n', 'i', '_', '_']) (o := ['t', 'c', 'e', 'j', 'b', 'o']) (by kernel_rfl) F.owner_object]; kernel_rfl
abbrev zkZ (b : Bool) (h : Heap) (o1 o2 : Obj) : Heap := (gzO2 h o1 o2).push { cls := .type "zip", data := .fields #[.none, .bool false, .bool b, .ref ((h.push o1).push o2).objs.size, .ref (gzT2 h o1 o2).objs.size] }
theorem meets_zk {v1 v2 : Value} {o1 o2 : Obj} {H1 H2 : Heap → Prop} (b : Bool) (B1 : Begins v1 o1 H1) (B2 : Begins v2 o2 H2) :
    Meets (Builtin.«zip.__new__» ⟨[.type "zip", v1, v2], [(Str.ofString "strict", .bool b)]⟩) (fun _ R s => (H1 s.heap ∧ H2 s.heap) ∧ R (.ok (.ret (.ref (gzO2 s.heap o1 o2).objs.size))) { s with heap := zkZ b s.heap o1 o2 }) :=
  .of_wp fun prog w A R s h => by
    obtain ⟨k, gs, dr, tk, os⟩ := s; obtain ⟨⟨h1, h2⟩, h⟩ := h
    have sb := sub_zip
    have i1 : ∀ {A' : Around} {E : Value → Shared → Prop} {Q : Value → Shared → Prop}, Q (.ref k.objs.size) ⟨k.push o1, gs, dr, tk, os⟩ → wpAny (model prog w) A' (pyIter v1) Q E ⟨k, gs, dr, tk, os⟩ := fun q => B1.iter prog w _ _ ⟨k, gs, dr, tk, os⟩ _ h1 q
    have i2 : ∀ {A' : Around} {E : Value → Shared → Prop} {Q : Value → Shared → Prop}, Q (.ref (k.push o1).objs.size) ⟨(k.push o1).push o2, gs, dr, tk, os⟩ → wpAny (model prog w) A' (pyIter v2) Q E ⟨k.push o1, gs, dr, tk, os⟩ :=
      fun q => B2.iter prog w _ _ ⟨k.push o1, gs, dr, tk, os⟩ _ (B2.keeps _ _ h2 fun b o e => Heap.get?_push_of_some _ e) q
    have e1 : (Str.ofString "strict" != ("strict" : Str)) = false := by decide +kernel
    wp_walk using i1, i2
    exact ⟨_, rfl, h⟩
end ZK

/-! zip of lists and tuples, with strict= -/
namespace ZK
open PySem PySem.Spec PyProof.Rows L2
section
variable {prog : Program} {w : World} {A : Around} {E : Value → Shared → Prop} {s : Shared}
theorem zk_begins {v1 v2 : Value} {o1 o2 : Obj} {H1 H2 : Heap → Prop} {b : Bool} {Q : Value → Shared → Prop} (B1 : Begins v1 o1 H1) (B2 : Begins v2 o2 H2) (h1 : H1 s.heap) (h2 : H2 s.heap)
    (q : ∀ h', ZB b h' (s.heap.objs.size + 4) (s.heap.objs.size + 2) (s.heap.objs.size + 3) .none → IsTupOf2 h' (s.heap.objs.size + 2) (.ref s.heap.objs.size) (.ref (s.heap.objs.size + 1)) →
      IsTupOf2 h' (s.heap.objs.size + 3) .none .none → h'.get? s.heap.objs.size = some o1 → h'.get? (s.heap.objs.size + 1) = some o2 → (∀ c o, s.heap.get? c = some o → h'.get? c = some o) → Q (.ref (s.heap.objs.size + 4)) { s with heap := h' }) :
    wpAny (model prog w) A (call (.type "zip") [v1, v2] [(Str.ofString "strict", .bool b)]) Q E s := by
  refine callType_newKw F.called_zip (by decide) (typeCall_zk _ _ _) (newCall_zk _ _ _) (fun o => args_zk o _ _ _) F.entry_zip_new (meets_zk b B1 B2) ⟨⟨h1, h2⟩, ?_⟩
  have n1 : (s.heap.push o1).objs.size = s.heap.objs.size + 1 := by rw [Heap.size_push]
  have n2 : ((s.heap.push o1).push o2).objs.size = s.heap.objs.size + 2 := by rw [Heap.size_push, n1]
  have n3 : (gzT2 s.heap o1 o2).objs.size = s.heap.objs.size + 3 := by rw [Heap.size_push, n2]
  have n4 : (gzO2 s.heap o1 o2).objs.size = s.heap.objs.size + 4 := by rw [Heap.size_push, n3]
  have c4 : (zkZ b s.heap o1 o2).get? (gzO2 s.heap o1 o2).objs.size = some { cls := .type "zip", data := .fields #[.none, .bool false, .bool b, .ref ((s.heap.push o1).push o2).objs.size, .ref (gzT2 s.heap o1 o2).objs.size] } := Heap.get?_push_size _ rfl
  have c3 : (zkZ b s.heap o1 o2).get? (gzT2 s.heap o1 o2).objs.size = some { cls := .type "tuple", data := .seq #[.none, .none] } := Heap.get?_push_of_some _ (Heap.get?_push_size _ rfl)
  have c2 : (zkZ b s.heap o1 o2).get? ((s.heap.push o1).push o2).objs.size = some { cls := .type "tuple", data := .seq #[.ref s.heap.objs.size, .ref (s.heap.push o1).objs.size] } := Heap.get?_push_of_some _ (Heap.get?_push_of_some _ (Heap.get?_push_size _ rfl))
  have c0 : (zkZ b s.heap o1 o2).get? s.heap.objs.size = some o1 := Heap.get?_push_of_some _ (Heap.get?_push_of_some _ (Heap.get?_push_of_some _ (Heap.get?_push_of_some _ (Heap.get?_push_size _ B1.free))))
  have c1 : (zkZ b s.heap o1 o2).get? (s.heap.push o1).objs.size = some o2 := Heap.get?_push_of_some _ (Heap.get?_push_of_some _ (Heap.get?_push_of_some _ (Heap.get?_push_size _ B2.free)))
  rw [n4, n3, n2] at c4
  rw [n3] at c3
  rw [n2, n1] at c2
  rw [n1] at c1
  show _ ∧ _
  rw [n4]
  exact ⟨⟨_, c4, rfl⟩, q _ c4 c2 c3 c0 c1 fun c o e => Heap.get?_push_of_some _ (Heap.get?_push_of_some _ (Heap.get?_push_of_some _ (Heap.get?_push_of_some _ (Heap.get?_push_of_some _ e))))⟩
end
/-- a built-in class is called with keywords -/
theorem callWith_tk {A : Around} {M : Model} {E : Value → Shared → Prop} {s : Shared} {env : Env} {pos : Pos} {T : String} {e : Expr} {rest : List Expr} {kws : List Keyword} {Q : Value → Shared → Prop}
    (h : wpAny M A (spliced (backTo pos (starEach (e :: rest) env))) (fun vs s1 => wpAny M A (evalAll ((backToKw pos (keywordEach kws env)).map (·.2)))
      (fun ks s2 => wpAny M A (call (.type T) vs (((backToKw pos (keywordEach kws env)).filterMap (·.1)).zip ks)) Q E s2) E s1) E s)
    (he : backTo pos (starEach (e :: rest) env) = (false, eval e env) :: backTo pos (starEach rest env) := by rfl)
    (hp : (backTo pos (starEach (e :: rest) env)).any (·.1) = false := by rfl) (ha : (backToKw pos (keywordEach kws env)).all (·.1.isSome) = true := by rfl) (hk : (backToKw pos (keywordEach kws env)).any (·.1.isNone) = false := by rfl) :
    wpAny M A (callWith pos (.type T) [] (backTo pos (starEach (e :: rest) env)) (backToKw pos (keywordEach kws env))) Q E s := by
  have h2 : wpAny M A (evalArgs (.type T) true (backTo pos (starEach (e :: rest) env)) (backToKw pos (keywordEach kws env))) (fun a s1 => wpAny M A (call (.type T) ([] ++ a.pos) a.kw) Q E s1) E s := by
    rw [he] at h ⊢
    unfold evalArgs
    show wpAny M A (spliced ((false, eval e env) :: backTo pos (starEach rest env)) >>= _) _ E s
    refine wpAny_bind (wpAny_mono h (fun vs s1 h1 => wpAny_holding ?_) fun _ _ x => x)
    rw [if_pos ha]
    exact wpAny_bind (wpAny_mono h1 (fun ks s2 h3 => wpAny_bind (wpAny_pure (wpAny_pure h3))) fun _ _ x => x)
  unfold callWith
  refine wpAny_bind (wpAny_holding (wpAny_mono h2 (fun a s1 h1 => wpAny_bind (wpAny_standAt ?_)) fun _ _ x => x))
  simp only [hp, hk, Bool.or_false]
  refine wpAny_bind (wpAny_pure ?_)
  exact wpAny_bind (wpAny_mono h1 (fun r s2 hr => wpAny_bind (wpAny_holding (wpAny_point (wpAny_pure hr)))) fun _ _ x => x)
/-- a list or a tuple, by k -/
def Sq (K : PySem.W.Frag) (k : Bool) (H : Hp) (a : Addr) (xs : List V) : Prop := match k with
  | true => SqT K H a xs
  | false => SqL K H a xs
def ItS (k : Bool) (h : Heap) (j l : Addr) (i : Nat) : Prop := match k with
  | true => h.IsTupleIter j l i
  | false => h.IsListIter j l i
def IsS (k : Bool) (h : Heap) (l : Addr) (its : Array Value) : Prop := match k with
  | true => h.IsTuple l its
  | false => h.IsList l its
def itO (k : Bool) (l : Addr) : Obj := match k with
  | true => { cls := .type "tuple_iterator", data := .fields #[.ref l, .int 0 0] }
  | false => { cls := .type "list_iterator", data := .fields #[.ref l, .int 0 0] }
theorem begins_s (k : Bool) (l : Addr) (its : Array Value) : Begins (.ref l) (itO k l) fun h => IsS k h l its := by
  cases k
  · exact begins_list l its
  · exact begins_tuple l its
theorem draws_s {prog : Program} {w : World} {A : Around} (hh : A.handled = none) (k : Bool) (j l : Addr) (hne : l ≠ j) (its : Array Value) : Draws prog w A j [j, l] its.size (fun i v => its[i]? = some v) (fun i h => ItS k h j l i ∧ IsS k h l its) := by
  cases k
  · exact Draws.list hh j l hne its
  · exact Draws.tuple hh j l hne its
theorem itS_0 {k : Bool} {h : Heap} {j l : Addr} (e : h.get? j = some (itO k l)) : ItS k h j l 0 := by
  cases k
  · exact ⟨_, e, rfl, rfl⟩
  · exact ⟨_, e, rfl, rfl⟩
theorem ItS.get {k : Bool} {h : Heap} {j l : Addr} {i : Nat} (e : ItS k h j l i) : ∃ o, h.get? j = some o ∧ ∀ v, o.data ≠ .cell v := by
  cases k
  · obtain ⟨o, a, b, c⟩ := e
    exact ⟨o, a, fun v q => by rw [c] at q; cases q⟩
  · obtain ⟨o, a, b, c⟩ := e
    exact ⟨o, a, fun v q => by rw [c] at q; cases q⟩
theorem ItS.at {k : Bool} {h h' : Heap} {j l : Addr} {i : Nat} (e : ItS k h j l i) (q : ∀ o, h.get? j = some o → h'.get? j = some o) : ItS k h' j l i := by
  cases k
  · exact Heap.IsListIter.at e q
  · exact Heap.IsTupleIter.at e q
section
variable {X : Cx} {pins : List (Addr × Obj)} {σ : L2.St} {H : Hp} {s : Shared} {k : Bool} {a : Addr} {xs ys : List V}
theorem Inv.sq (I : Inv X pins σ H s) (h : Sq X.K k H a xs) : ∃ its : List Value, Vals xs its ∧ IsS k s.heap a its.toArray := by
  cases k
  · obtain ⟨its, r, p, _⟩ := I.list h
    exact ⟨its, r, p.isList⟩
  · obtain ⟨its, r, p, _⟩ := I.tuple h
    exact ⟨its, r, p⟩
theorem Inv.sq_inj (I : Inv X pins σ H s) (h : Sq X.K k H a xs) (h2 : Sq X.K k H a ys) : xs = ys := by
  cases k
  · exact I.list_inj h h2
  · exact I.tuple_inj h h2
end
/-- the pairs, turn by turn -/
def ItZ (K : PySem.W.Frag) (b k1 k2 : Bool) (a1 a2 : Addr) : It :=
  ⟨fun i H => ∃ (xs ys : List V) (x y : V), Sq K k1 H a1 xs ∧ Sq K k2 H a2 ys ∧ xs[i]? = some x ∧ ys[i]? = some y,
    fun i H v H' => ∃ T x y, v = .ref T ∧ H T = none ∧ H' = upd H T (.tup [x, y]) ∧ (∀ xs, Sq K k1 H a1 xs → xs[i]? = some x) ∧ ∀ ys, Sq K k2 H a2 ys → ys[i]? = some y,
    fun i H => ∃ xs ys : List V, Sq K k1 H a1 xs ∧ Sq K k2 H a2 ys ∧ i ≤ xs.length ∧ i ≤ ys.length ∧ (i = xs.length ∨ i = ys.length) ∧ (b = true → xs.length = ys.length)⟩
def tnZ (b k1 k2 : Bool) (a1 a2 z ti tu j1 j2 : Addr) (i : Nat) (h : Heap) : Prop := ZB b h z ti tu .none ∧ IsTupOf2 h ti (.ref j1) (.ref j2) ∧ (∃ x y, IsTupOf2 h tu x y) ∧ ItS k1 h j1 a1 i ∧ ItS k2 h j2 a2 i
theorem turn_zk {P : Program} {w : World} {K : PySem.W.Frag} {elts : List Expr} {kk : Nat} {tpos : Pos} {b k1 k2 : Bool} {a1 a2 z ti tu j1 j2 : Addr} (S : ZipSep2 z ti tu j1 j2 [j1, a1] [j2, a2]) (na1 : a1 ≠ j1) (na2 : a2 ≠ j2) :
    Turn P w K (.Tuple elts kk tpos) (ItZ K b k1 k2 a1 a2) [z, ti, tu, j1, j2] z (tnZ b k1 k2 a1 a2 z ti tu j1 j2) where
  mem := by simp
  obj := fun i h st c hc => by
    obtain ⟨hz, hti, ⟨x, y, htu⟩, h1, h2⟩ := st
    simp only [List.mem_cons, List.not_mem_nil, or_false] at hc
    rcases hc with q | q | q | q | q
    · rw [q]; exact ⟨_, hz, fun v q => nomatch q⟩
    · rw [q]; exact ⟨_, hti, fun v q => nomatch q⟩
    · rw [q]; exact ⟨_, htu, fun v q => nomatch q⟩
    · rw [q]; exact h1.get
    · rw [q]; exact h2.get
  keep := fun i h h' st m => by
    obtain ⟨hz, hti, ⟨x, y, htu⟩, h1, h2⟩ := st
    exact ⟨m z (by simp) _ hz, m ti (by simp) _ hti, ⟨x, y, m tu (by simp) _ htu⟩, h1.at fun o q => m j1 (by simp) o q, h2.at fun o q => m j2 (by simp) o q⟩
  item := by
    intro X hP hw hK hc i pins s σ H E I hf st hg
    subst hP hw hK
    obtain ⟨hz, hti, ⟨x0, y0, htu⟩, h1, h2⟩ := st
    obtain ⟨xs, ys, x, y, hqx, hqy, hx, hy⟩ := hg
    obtain ⟨us, ru, pu⟩ := Inv.sq I hqx
    obtain ⟨vs, rv, pv⟩ := Inv.sq I hqy
    obtain ⟨u, hu, r1⟩ := ru.get hx
    obtain ⟨v, hv, r2⟩ := rv.get hy
    have hh : X.A.in1.handled = none := I.ok.hd hc
    have zl : z < s.heap.objs.size := Heap.lt_size hz
    refine pyNext_item S (draws_s hh k1 j1 a1 na1 us.toArray) (draws_s hh k2 j2 a2 na2 vs.toArray) hz hti htu ⟨h1, pu⟩ ⟨h2, pv⟩ (by simpa using (List.getElem?_eq_some_iff.mp hu).1) (by simpa using (List.getElem?_eq_some_iff.mp hv).1) fun x1 y1 h' tk px py z' tu' t1 t2 hT hsz hk => ?_
    have ex : x1 = u := by
      have : us.toArray[i]? = some u := by simpa using hu
      rw [this] at px; exact (Option.some.inj px).symm
    have ey : y1 = v := by
      have : vs.toArray[i]? = some v := by simpa using hv
      rw [this] at py; exact (Option.some.inj py).symm
    subst ex ey
    refine ⟨_, rfl, go_zb (s := { s with heap := h', toks := tk }) z' fun h2' z2' sb => ?_⟩
    have hT2 : h2'.get? s.heap.objs.size = some { cls := .type "tuple", data := .seq #[x1, y1] } := (sb.2 _ (Nat.ne_of_gt zl)).trans hT
    have nw : ObjOk X.prog X.w (upd H s.heap.objs.size (.tup [x, y])) h2' s.heap.objs.size (.tup [x, y]) :=
      ⟨by show 2 ≤ sizeLine; decide, [x1, y1], .cons r1 (.cons r2 .nil), ⟨_, hT2, rfl, _, rfl⟩⟩
    have I1 : Inv X pins σ (upd H s.heap.objs.size (.tup [x, y])) { s with heap := h2', toks := tk } :=
      I.turnedNew (t' := tk) (ch := [z, ti, tu, j1, j2]) (fun c o hb q => (sb.2 c (fun q' => hb (by simp [q']))).trans (hk c o (fun q' => hb (by simp [q'])) (fun q' => hb (by simp [q'])) (fun q' => hb (by simp [q'])) (fun q' => hb (by simp [q'])) q)) hf (Nat.le_refl _) nw
    refine ⟨.ref s.heap.objs.size, _, I1, rfl, ⟨_, x, y, rfl, I.hok.fresh (Nat.le_refl _), rfl, fun l hl => by rw [Inv.sq_inj I hl hqx]; exact hx, fun l hl => by rw [Inv.sq_inj I hl hqy]; exact hy⟩, ⟨z2', ?_, ⟨x1, y1, ?_⟩, ?_, ?_⟩, fun c hcm => ?_⟩
    · exact (sb.2 _ S.TIz).trans (hk _ _ S.TIz S.TITO S.TIi1 S.TIi2 hti)
    · exact (sb.2 _ S.TOz).trans tu'
    · exact t1.1.at fun o q => (sb.2 _ S.zi1.symm).trans q
    · exact t2.1.at fun o q => (sb.2 _ S.zi2.symm).trans q
    · have hlt : c < s.heap.objs.size := by
        simp only [List.mem_cons, List.not_mem_nil, or_false] at hcm
        rcases hcm with q | q | q | q | q
        · rw [q]; exact zl
        · rw [q]; exact Heap.lt_size hti
        · rw [q]; exact Heap.lt_size htu
        · rw [q]; obtain ⟨_, e1, _⟩ := h1.get; exact Heap.lt_size e1
        · rw [q]; obtain ⟨_, e2, _⟩ := h2.get; exact Heap.lt_size e2
      rw [upd_ne (Nat.ne_of_lt hlt)]
      exact (hf c hcm).1
  done := by
    intro X hP hw hK hc i pins s σ H E I hf st hg
    subst hP hw hK
    obtain ⟨hz, hti, ⟨x0, y0, htu⟩, h1, h2⟩ := st
    obtain ⟨xs, ys, hqx, hqy, i1, i2, ie, ib⟩ := hg
    obtain ⟨us, ru, pu⟩ := Inv.sq I hqx
    obtain ⟨vs, rv, pv⟩ := Inv.sq I hqy
    have l1 := ru.length
    have l2 := rv.length
    have hh : X.A.in1.handled = none := I.ok.hd hc
    refine pyNext_end (I.ok.hd hc) S (draws_s hh k1 j1 a1 na1 us.toArray) (draws_s hh k2 j2 a2 na2 vs.toArray) hz hti htu ⟨h1, pu⟩ ⟨h2, pv⟩ (by simp; omega) (by simp; omega) (by simp; omega) (fun hb => by have := ib hb; simp; omega) fun h' tk hk => ⟨rfl, I.turnedL (t' := tk) (ch := [z, ti, tu, j1, j2]) (fun c o hb q =>
      hk c o (fun q' => hb (by simp [q'])) (fun q' => hb (by simp [q'])) (fun q' => hb (by simp [q'])) (fun q' => hb (by simp [q'])) q) hf⟩
  self := fun A i s Q E st q => iter_zb st.1 q
/-- zip(a, b), with strict= or without -/
def iZk (K : PySem.W.Frag) (b : Bool) (ta : TA) : TI := fun σ H R => ta σ H fun vs H1 => ∃ k1 k2 a1 a2 xs ys, vs = [.ref a1, .ref a2] ∧ Sq K k1 H1 a1 xs ∧ Sq K k2 H1 a2 ys ∧ R (ItZ K b k1 k2 a1 a2) H1
theorem pie_zk {X : Cx} {pins : List (Addr × Obj)} {σ : L2.St} {H1 : Hp} {s1 : Shared} {elts : List Expr} {kk : Nat} {tpos : Pos} {R : It → Hp → Prop} {b k1 k2 : Bool} {a1 a2 : Addr} {xs ys : List V} {h' : Heap} (I1 : Inv X pins σ H1 s1) (hqx : Sq X.K k1 H1 a1 xs) (hqy : Sq X.K k2 H1 a2 ys) (q : R (ItZ X.K b k1 k2 a1 a2) H1)
    (hz : ZB b h' (s1.heap.objs.size + 4) (s1.heap.objs.size + 2) (s1.heap.objs.size + 3) .none) (hti : IsTupOf2 h' (s1.heap.objs.size + 2) (.ref s1.heap.objs.size) (.ref (s1.heap.objs.size + 1))) (htu : IsTupOf2 h' (s1.heap.objs.size + 3) .none .none)
    (e1 : h'.get? s1.heap.objs.size = some (itO k1 a1)) (e2 : h'.get? (s1.heap.objs.size + 1) = some (itO k2 a2)) (hk : ∀ c o, s1.heap.get? c = some o → h'.get? c = some o) :
    wpAny (model X.prog X.w) X.A (pyIter (.ref (s1.heap.objs.size + 4))) (PIE X pins σ (.Tuple elts kk tpos) R) X.xe { s1 with heap := h' } := by
  have lt : ∀ {k : Bool} {a : Addr} {xs : List V}, Sq X.K k H1 a xs → a < s1.heap.objs.size := fun {k a xs} hq => by
    obtain ⟨us, _, pu⟩ := Inv.sq I1 hq
    cases k
    · obtain ⟨o, e, _⟩ := pu; exact Heap.lt_size e
    · obtain ⟨o, e, _⟩ := pu; exact Heap.lt_size e
  have l1 := lt hqx
  have l2 := lt hqy
  have S := zip_sep2 (N := s1.heap.objs.size) (fp1 := [a1]) (fp2 := [a2]) (fun c hc => by rw [List.mem_singleton.mp hc]; exact l1) (fun c hc => by rw [List.mem_singleton.mp hc]; exact l2)
  refine iter_zb hz ?_
  have I2 : Inv X pins σ H1 { s1 with heap := h' } := I1.kept (t' := s1.toks) hk
  refine ⟨s1.heap.objs.size + 4, [s1.heap.objs.size + 4, s1.heap.objs.size + 2, s1.heap.objs.size + 3, s1.heap.objs.size, s1.heap.objs.size + 1], _, _, H1, rfl, I2, turn_zk S (Nat.ne_of_lt l1) (Nat.ne_of_lt (Nat.lt_succ_of_lt l2)), ⟨hz, hti, ⟨_, _, htu⟩, itS_0 e1, itS_0 e2⟩, fun c hcm => ?_, q⟩
  have hle : s1.heap.objs.size ≤ c := by
    simp only [List.mem_cons, List.not_mem_nil, or_false] at hcm
    rcases hcm with z | z | z | z | z
    · rw [z]; exact Nat.le_add_right _ _
    · rw [z]; exact Nat.le_add_right _ _
    · rw [z]; exact Nat.le_add_right _ _
    · rw [z]; exact Nat.le_refl _
    · rw [z]; exact Nat.le_add_right _ _
  exact I1.fpOk hle (I1.hok.fresh hle)
section
variable {X : Cx} {e e2 : Expr} {ta : TA} {p pos tpos kp kp2 : Pos} {elts : List Expr} {kk kn : Nat} {b : Bool}
theorem pi_zk (hg : Gl X "zip") (hm : X.mg "zip" = none) (ha : PA X [e, e2] ta)
    (hs : backTo pos (starEach [e, e2] X.env) = (false, eval e X.env) :: backTo pos (starEach [e2] X.env) := by rfl) (hp : (backTo pos (starEach [e, e2] X.env)).any (·.1) = false := by rfl) :
    PI X (.Tuple elts kk tpos) (.Call (.Name "zip" p) [e, e2] [⟨some "strict", .Constant (.bool b) kn kp, kp2⟩] pos) (iZk X.K b ta) := by
  refine ⟨fun pins s σ H R I h => ?_⟩
  refine wpAny_Call_Name_kw (ld_blt I hg hm PyProof.Rows.boot_zip (callWith_tk (thn (ha.run pos pins s σ H _ I h) fun us s1 ⟨vs, H1, I1, r1, q1⟩ => ?_) hs hp))
  obtain ⟨k1, k2, a1, a2, xs, ys, ex, hqx, hqy, q⟩ := q1
  subst ex
  cases r1 with
  | cons r rr =>
    cases rr with
    | cons r' rr =>
      cases rr
      cases r
      cases r'
      obtain ⟨us1, _, pu⟩ := Inv.sq I1 hqx
      obtain ⟨us2, _, pv⟩ := Inv.sq I1 hqy
      show wpAny _ _ (evalAll [do let v ← eval (.Constant (.bool b) kn kp) X.env; standAt pos; pure v]) _ _ _
      refine evalAll_cons (wpAny_bind ?_)
      refine wpAny_of_eq (a := Value.bool b) (by cases b <;> rfl) (wpAny_bind (wpAny_standAt (wpAny_pure (evalAll_nil ?_))))
      exact zk_begins (begins_s k1 a1 us1.toArray) (begins_s k2 a2 us2.toArray) pu pv fun h' hz hti htu c1 c2 hk => pie_zk I1 hqx hqy q hz hti htu c1 c2 hk
theorem pi_zp (hg : Gl X "zip") (hm : X.mg "zip" = none) (ha : PA X [e, e2] ta)
    (hs : starEach [e, e2] X.env = (false, eval e X.env) :: starEach [e2] X.env := by rfl) (hpl : (backTo pos (starEach [e2] X.env)).any (·.1) = false := by rfl) :
    PI X (.Tuple elts kk tpos) (.Call (.Name "zip" p) [e, e2] [] pos) (iZk X.K false ta) := by
  refine ⟨fun pins s σ H R I h => ?_⟩
  refine Call_ (ld_blt I hg hm PyProof.Rows.boot_zip (PyProof.Rows.callWith_type1 (thn (ha.run pos pins s σ H _ I h) fun us s1 ⟨vs, H1, I1, r1, q1⟩ => ?_) hs hpl))
  obtain ⟨k1, k2, a1, a2, xs, ys, ex, hqx, hqy, q⟩ := q1
  subst ex
  cases r1 with
  | cons r rr =>
    cases rr with
    | cons r' rr =>
      cases rr
      cases r
      cases r'
      obtain ⟨us1, _, pu⟩ := Inv.sq I1 hqx
      obtain ⟨us2, _, pv⟩ := Inv.sq I1 hqy
      exact zip_begins2 (begins_s k1 a1 us1.toArray) (begins_s k2 a2 us2.toArray) pu pv fun h' hz hti htu c1 c2 _ hk => pie_zk I1 hqx hqy q hz hti htu c1 c2 hk
end
end ZK
namespace Dn
open PySem PySem.Spec PyProof.Rows L2 ZK
/-- a list or a tuple -/
def seqZ : D → Option (List D)
  | .list ds => some ds
  | .tup ds => some ds
  | _ => none
def zipL : List D → List D → List D
  | x :: xs, y :: ys => .tup [x, y] :: zipL xs ys
  | _, _ => []
theorem zipL_len : ∀ xs ys : List D, (zipL xs ys).length = min xs.length ys.length
  | [], _ => by cases ‹List D› <;> simp [zipL]
  | _ :: _, [] => by simp [zipL]
  | x :: xs, y :: ys => by unfold zipL; rw [List.length_cons, zipL_len, List.length_cons, List.length_cons]; omega
theorem zipL_get : ∀ {xs ys : List D} {i : Nat} {d : D}, (zipL xs ys)[i]? = some d → ∃ x y, xs[i]? = some x ∧ ys[i]? = some y ∧ d = .tup [x, y]
  | [], _, _, _, h => by
    rename_i ys i d
    cases ys <;> simp [zipL] at h
  | _ :: _, [], _, _, h => by simp [zipL] at h
  | x :: xs, y :: ys, 0, d, h => by
    unfold zipL at h
    exact ⟨x, y, rfl, rfl, (by simpa using h.symm)⟩
  | x :: xs, y :: ys, i + 1, d, h => by
    unfold zipL at h
    rw [List.getElem?_cons_succ] at h
    obtain ⟨a, b, c, e, g⟩ := zipL_get h
    exact ⟨a, b, by rw [List.getElem?_cons_succ]; exact c, by rw [List.getElem?_cons_succ]; exact e, g⟩
/-- zip(a, b, strict=b) -/
def zipD (b : Bool) : List D → Option (List D)
  | [x, y] => match seqZ x, seqZ y with
    | some xs, some ys => if b = true ∧ xs.length ≠ ys.length then none else some (zipL xs ys)
    | _, _ => none
  | _ => none
section
variable {X : Cx} {W : WX} {G H : Hp} {v : V} {x : D} {xs : List D}
theorem Is.sqE (h : Is X.K H v x) (e : seqZ x = some xs) : ∃ k a vs, v = .ref a ∧ (∀ H', Same H H' → Sq X.K k H' a vs) ∧ IsL X.K H vs xs := by
  cases x with
  | list ds =>
    cases e
    obtain ⟨a, vs, rfl, ha, r⟩ := h.listE
    exact ⟨false, a, vs, rfl, fun H' s => SqL.of (s _ _ ha), r⟩
  | tup ds =>
    cases e
    obtain ⟨a, vs, rfl, ha, r⟩ := h.tupE
    exact ⟨true, a, vs, rfl, fun H' s => SqT.of (s _ _ ha), r⟩
  | _ => cases e
end
theorem Walked.zip {K : PySem.W.Frag} {b k1 k2 : Bool} {a1 a2 : Addr} {us vs : List V} {xs ys : List D} {G0 : Hp} (h1 : ∀ H', Same G0 H' → Sq K k1 H' a1 us) (h2 : ∀ H', Same G0 H' → Sq K k2 H' a2 vs) (r1 : IsL K G0 us xs) (r2 : IsL K G0 vs ys) (hb : b = true → xs.length = ys.length) :
    Walked K (ItZ K b k1 k2 a1 a2) G0 (zipL xs ys) where
  go := fun F i G H A hi f s => by
    rw [zipL_len] at hi
    obtain ⟨u, eu, _⟩ := r1.at (i := i) (List.getElem?_eq_getElem (by omega))
    obtain ⟨v, ev, _⟩ := r2.at (i := i) (List.getElem?_eq_getElem (by omega))
    exact ⟨us, vs, u, v, h1 _ (s.trans f.gh), h2 _ (s.trans f.gh), eu, ev⟩
  yl := fun F i x v G H H' A hi f s y => by
    obtain ⟨T, u1, u2, rfl, hT, rfl, y1, y2⟩ := y
    obtain ⟨d1, e1, p1⟩ := r1.get (y1 us (h1 _ (s.trans f.gh)))
    obtain ⟨d2, e2, p2⟩ := r2.get (y2 vs (h2 _ (s.trans f.gh)))
    obtain ⟨c1, c2, g1, g2, rfl⟩ := zipL_get hi
    rw [e1] at g1
    rw [e2] at g2
    cases g1
    cases g2
    have s2 := Same.new (o := .tup [u1, u2]) f.gh hT
    exact ⟨_, s2, f.new hT, upd_off (f.ne hT), .tup upd_same (.cons ((p1.up s).up s2) (.cons ((p2.up s).up s2) .nil))⟩
  st := fun F G H A f s => by
    have l1 := r1.length
    have l2 := r2.length
    refine ⟨us, vs, h1 _ (s.trans f.gh), h2 _ (s.trans f.gh), ?_, ?_, ?_, fun z => ?_⟩
    · rw [zipL_len]; omega
    · rw [zipL_len]; omega
    · rw [zipL_len]; omega
    · have := hb z; omega
section
variable {X : Cx} {W : WX} {e e2 : Expr} {p pos tpos kp kp2 : Pos} {elts : List Expr} {kk kn : Nat} {b : Bool} {ds : Ev → Rs (List D)}
theorem zip_q {σ : L2.St} {G1 H1 : Hp} {A1 : List Addr} {F : Fm} {ps : List V} {env1 : Ev} {xs : List D} {vs : List V} {G : Hp} {Q : It → Hp → Prop} (s1 : Same G G1) (I1 : EvIs X.K G1 H1 ps σ env1 A1) (R1 : Rel F G1 H1 A1) (i1 : IsL X.K G1 vs xs)
    (P1 : (ofL (zipD b xs) env1).post (fun ys env' => ∀ J G' H' A', Same G G' → EvIs X.K G' H' ps σ env' A' → Rel F G' H' A' → Walked X.K J G' ys → Q J H') (exP X W F ps G1)) :
    ∃ k1 k2 a1 a2 us ws, vs = [.ref a1, .ref a2] ∧ Sq X.K k1 H1 a1 us ∧ Sq X.K k2 H1 a2 ws ∧ Q (ItZ X.K b k1 k2 a1 a2) H1 := by
  cases q : zipD b xs with
  | none => rw [q] at P1; exact P1.elim
  | some zs =>
    rw [q] at P1
    unfold zipD at q
    split at q
    · rename_i x y
      cases q1 : seqZ x with
      | none => rw [q1] at q; cases q
      | some l1 =>
        cases q2 : seqZ y with
        | none => rw [q1, q2] at q; cases q
        | some l2 =>
          rw [q1, q2] at q
          dsimp only at q
          by_cases c : b = true ∧ l1.length ≠ l2.length
          · rw [if_pos c] at q; cases q
          · rw [if_neg c] at q
            cases q
            cases i1 with
            | cons h1 t =>
              cases t with
              | cons h2 t =>
                cases t
                obtain ⟨k1, a1, us, rfl, g1, r1⟩ := Is.sqE h1 q1
                obtain ⟨k2, a2, ws, rfl, g2, r2⟩ := Is.sqE h2 q2
                exact ⟨k1, k2, a1, a2, us, ws, rfl, g1 _ R1.gh, g2 _ R1.gh, P1 _ G1 H1 A1 s1 I1 R1 (.zip g1 g2 r1 r2 fun z => Decidable.byContradiction fun z2 => c ⟨z, z2⟩)⟩
    · cases q
theorem SI.zipK (hg : Gl X "zip") (hm : X.mg "zip" = none) (hs : backTo pos (starEach [e, e2] X.env) = (false, eval e X.env) :: backTo pos (starEach [e2] X.env)) (hp : (backTo pos (starEach [e, e2] X.env)).any (·.1) = false) (h : SA X W [e, e2] ds) :
    SI X W (.Tuple elts kk tpos) (.Call (.Name "zip" p) [e, e2] [⟨some "strict", .Constant (.bool b) kn kp, kp2⟩] pos) (dRng (zipD b) ds) := fun F ps σ G H A Q env I R P =>
  PI.go (pi_zk hg hm pa_run hs hp) (h.seq I R P fun xs env1 vs G1 H1 A1 s1 I1 i1 R1 P1 => zip_q s1 I1 R1 i1 P1)
theorem SI.zipP (hg : Gl X "zip") (hm : X.mg "zip" = none) (hs : starEach [e, e2] X.env = (false, eval e X.env) :: starEach [e2] X.env) (hpl : (backTo pos (starEach [e2] X.env)).any (·.1) = false) (h : SA X W [e, e2] ds) :
    SI X W (.Tuple elts kk tpos) (.Call (.Name "zip" p) [e, e2] [] pos) (dRng (zipD false) ds) := fun F ps σ G H A Q env I R P =>
  PI.go (pi_zp hg hm pa_run hs hpl) (h.seq I R P fun xs env1 vs G1 H1 A1 s1 I1 i1 R1 P1 => zip_q s1 I1 R1 i1 P1)
end
end Dn

/-! calls by keyword, keyword-only defaults -/
namespace Dn
open PySem PySem.Spec PyProof.Rows L2
/-- a def that is called with n values and the keyword kx -/
structure Def1K (P : Program) (w : World) (K : PySem.W.Frag) (mg : Str → Option Value) (base : Heap) (x : Str) (k : Nat) (ps : List Str) (n : Nat) (kx : Str) (sp : Sp) : Prop where
  m : mg x = some (.ref (He.ga K x))
  kp : PySem.W.keepIn K (.ref (He.ga K x)) = true
  ex : ∃ fd, FnG P w K mg base (L2.CX P w) k (He.ga K x) fd ps sp ∧ KBn K fd ps n [kx] (fun us ws => us ++ ws) (fun vs zs => vs ++ zs)
def dCallK (Fn' : Fn) (n : Nat) (ds : Ev → Rs (List D)) (d : DE) : DE := fun env => (ds env).bind fun xs env => (d env).bindD fun y env => if xs.length + 1 = n then callP Fn' n [] (xs ++ [y]) env else .stuck
section
variable {X : Cx} {W : WX} {e e2 : Expr} {es : List Expr} {pos p kp : Pos} {x kx : Str} {k n : Nat} {ps : List Str} {Fn' : Fn} {ds : Ev → Rs (List D)} {d : DE} {σ : L2.St} {H : Hp} {vs : List V} {v : V} {Q : VK} {sp : Sp}
def RunCk (X : Cx) (f : Value) (xs : List V) (kx : Str) (v : V) (σ : L2.St) (H : Hp) (Q : VK) : Prop := ∀ (pins : List (Addr × Obj)) (s : Shared) (us : List Value) (w : Value), Inv X pins σ H s → Vals xs us → RelV v w → wpAny (model X.prog X.w) X.A (call f us ([kx].zip [w])) (EP X pins σ Q) X.xe s
theorem run_ck (D : Def1K X.prog X.w X.K X.mg X.base x k ps n kx sp) (hr : Room k X.A) (hg : X.A.guards = some []) (tk : Takes X W) (hl : vs.length = n) (q : sp (vs ++ [v]) H Q (fun cls dx H' => W cls dx σ H')) : RunCk X (.ref (He.ga X.K x)) vs kx v σ H Q := fun pins s us w I r rw => by
  obtain ⟨fd, F, hb⟩ := D.ex
  refine wpAny_call (codeAny_mono (F.run X.A X.stack s H ⟨us, [kx].zip [w]⟩ (us ++ [w]) (vs ++ [v]) Q _ hr hg I.env0 (hb.to s us [w] I.kIn (r.length.symm.trans hl) rfl) (hb.rel r (.cons rw .nil)) q) fun r' s' hq => ?_)
  match r', hq with
  | .error e, hq => exact passAt tk σ pins H s e s' I hq
  | .ok (.ret u), hq => exact I.after hq
theorem SE.callK (tk : Takes X W) (hr : Room k X.A) (hgd : X.A.guards = some []) (D : Def1K X.prog X.w X.K X.mg X.base x k ps n kx (spF X.K (List.replicate (n + 1) false) Fn')) (hg : Gl X x) (hdb : (x == ("__debug__" : Str)) = false)
    (he : starEach (e :: es) X.env = (false, eval e X.env) :: starEach es X.env) (hpl : ((backTo pos (starEach (e :: es) X.env)).any (·.1) || (backToKw pos (keywordEach [⟨some kx, e2, kp⟩] X.env)).any (·.1.isNone)) = false)
    (ha : SA X W (e :: es) ds) (h2 : SE X W e2 d) : SE X W (.Call (.Name x p) (e :: es) [⟨some kx, e2, kp⟩] pos) (dCallK Fn' (n + 1) ds d) := fun F qs σ G H A Q env I R P => .of fun pins s J => by
  refine wpAny_Call_Name_kw (ld_glob J hg D.m (PySem.W.callWith_KW (h₀ := X.base) J.ok.mod.kin D.kp rfl (thn ((ha.seq (K1 := fun vs H1 => RunE X e2 σ H1 fun v H2 => RunCk X (.ref (He.ga X.K x)) vs kx v σ H2 Q) I R P ?_).r pos pins s J) fun us s1 ⟨vs, H1, I1, r, q⟩ => ?_) hpl he) hdb)
  · intro xs env1 vs G1 H1 A1 s1 I1 i1 R1 P1
    refine h2.seqD I1 R1 P1 fun y env2 v G2 H2 A2 s2 I2 i2 R2 P2 => ?_
    by_cases hl : xs.length + 1 = n + 1
    · rw [if_pos hl] at P2
      have e3 : vs ++ [v] ++ [] = vs ++ [v] := List.append_nil _
      have q := sp_pure I2 R2 ((i1.up s2).app (.cons i2 .nil)) (callP_imp I2 R2 (s1.trans s2) P2)
      rw [e3] at q
      exact run_ck D hr hgd tk (by have := i1.length; omega) q
    · rw [if_neg hl] at P2; exact P2.elim
  · show wpAny _ _ (evalAll [do let v ← eval e2 X.env; standAt pos; pure v]) _ _ _
    refine evalAll_cons (wpAny_bind (thn (q.r pins s1 I1) fun u s2 ⟨v, H2, I2, r2, q2⟩ => wpAny_bind (wpAny_standAt (wpAny_pure (evalAll_nil ⟨I2.kIn, ?_⟩)))))
    exact q2 pins s2 us u I2 r r2
end
section
variable {P : Program} {w : World} {K : PySem.W.Frag} {mg : Str → Option Value} {base h : Heap} {x kx : Str} {k : Nat} {ps : List Str} {sp : Sp} {fa : List He.Fa} {fn : List He.DefD} {d : He.DefD}
/-- keyword-only defaults, none given -/
theorem def0k {kv : List (Str × V)} (T : Tb fa fn K mg h) (m : mg x = some (.ref (He.ga K x))) (i : Nat) (e : fn[i]? = some d) (hx : d.at_ = (x, none)) (hd : d.dfl = []) (hk : d.kws K = kv) (n : Nat) (hne : kv ≠ []) (hn : n + kv.length = ps.length)
    (hb : ∀ (D : Addr) (doc pm : Value) (an : Option Addr) (cdv ct : Value) (us ks : List Value), us.length = n → ks.length = kv.length → KwChain D ((kv.map (·.1)).zip ks) (bindArgs (PySem.W.fnOf d.name d.qual d.params d.body d.scope .none (.ref D) doc pm an cdv ct) ⟨us, []⟩) (ps.zip (us ++ ks)))
    (ok : ∀ fd, FunD K d.name d.qual d.params d.body d.scope [] kv (He.ga K x) fd → FnG P w K mg base (L2.CX P w) k (He.ga K x) fd ps sp) : Def1 P w K mg base x k ps (kv.map (·.2)) sp := by
  obtain ⟨fd, FD⟩ := T.c.def_ i e
  have e1 : He.fAd K d.at_ = He.ga K x := by rw [hx]; rfl
  have e2 : d.dvs K = [] := by unfold He.DefD.dvs; rw [hd]; rfl
  rw [e1, e2, hk] at FD
  obtain ⟨ds, vd, bd⟩ := FD.binds0 (ps := ps) n hne hn hb
  obtain ⟨oc, od, dV, kV, doc, pm, an, cdv, ct, osl, h1, h2, _⟩ := id FD.ex
  exact ⟨m, FD.kp, fd, ds, ok fd FD, bd, vd, _, _, _, h2⟩
/-- all of them given by keyword: one -/
theorem def1k {kv : List (Str × V)} (T : Tb fa fn K mg h) (m : mg x = some (.ref (He.ga K x))) (i : Nat) (e : fn[i]? = some d) (hx : d.at_ = (x, none)) (hd : d.dfl = []) (hk : d.kws K = kv) (n : Nat)
    (hb : ∀ (kV doc pm : Value) (an : Option Addr) (cdv ct : Value) (us : List Value) (z : Value), us.length = n → bindArgs (PySem.W.fnOf d.name d.qual d.params d.body d.scope .none kV doc pm an cdv ct) ⟨us, [(kx, z)]⟩ = pure (ps.zip (us ++ [z])))
    (ok : ∀ fd, FunD K d.name d.qual d.params d.body d.scope [] kv (He.ga K x) fd → FnG P w K mg base (L2.CX P w) k (He.ga K x) fd ps sp) : Def1K P w K mg base x k ps n kx sp := by
  obtain ⟨fd, FD⟩ := T.c.def_ i e
  have e1 : He.fAd K d.at_ = He.ga K x := by rw [hx]; rfl
  have e2 : d.dvs K = [] := by unfold He.DefD.dvs; rw [hd]; rfl
  rw [e1, e2, hk] at FD
  obtain ⟨oc, od, dV, kV, doc, pm, an, cdv, ct, osl, h1, h2, _, h4, _⟩ := id FD.ex
  obtain rfl : dV = .none := h4.elim (fun z => z.2) fun z => absurd rfl z.1
  refine ⟨m, FD.kp, fd, ok fd FD, ⟨fun s us ws X l1 l2 => ?_, fun r1 r2 => r1.append r2⟩⟩
  match ws, l2 with
  | [z], _ => exact h1 ▸ .of_eq (hb kV doc pm an cdv ct us z l1)
end
end Dn

/-! sorted(set(a list of ints)) -/
namespace Dn
open PySem PySem.Spec PyProof.Rows L2
/-- a new set -/
abbrev nuS (w : World) : Obj := { cls := .type "set", dict := none, data := .set #[] 0 (.fresh 0 0 (!w.params.followText "set-order")) }
theorem setR_count {w : World} {h : Heap} {a : Addr} {S : Int → Bool} {c : Nat} {ns : List Int} (R : SetR w h a S c) (m : ∀ k, S k = true ↔ k ∈ ns) : c = (usrt ns).length := by
  obtain ⟨o, es, ep, t, _, _, _, _, nd, hm, _, _, hn, _⟩ := R
  obtain ⟨u1, u2, _⟩ := usrt_ok ns
  have p : (es.toList.map keyOf).Perm (usrt ns) := (List.perm_ext_iff_of_nodup nd (u1.imp fun z => Int.ne_of_lt z)).mpr fun k => ((hm k).symm.trans (m k)).trans (u2 k).symm
  have l := p.length_eq
  rw [List.length_map, Array.length_toList] at l
  omega
section
variable {P : Program} {w : World} {A : Around} {E : Value → Shared → Prop} {s : Shared}
set_option maxHeartbeats 3200000 in
theorem call_setL {l : Addr} {us : Array Value} (ns : List Int) {Q : Value → Shared → Prop} (hh : A.handled = none) (hl : s.heap.IsList l us) (hi : IntsAre us.toList ns) (hb : ns.length + 1 < scanBound)
    (q : ∀ (h1 : Heap) (tk c : Nat), SetR w h1 s.heap.objs.size (fun j => decide (j ∈ ns)) c → (∀ b o, s.heap.get? b = some o → h1.get? b = some o) → Q (.ref s.heap.objs.size) { s with heap := h1, toks := tk }) :
    wpAny (model P w) A (call (.type "set") [.ref l]) Q E s := by
  have sz : us.size = ns.length := by have := IntsAre.length hi; rw [Array.length_toList] at this; exact this
  obtain ⟨cm, tl, hmro⟩ := F.called_set.mro
  have hmade := F.called_set.made
  have hsub := F.called_set.sub
  refine wpAny_call (codeAny_of_tree ?_)
  show wpAny _ _ (callAny (.type "set") _) _ _ _
  refine wpAny_pure ⟨Code.quiet_builtin _ (by decide +kernel), codeAny_builtin F.entry_type_call ?_⟩
  rw [Around.under_plain (weight_type_call_type "set" [.ref l] []) rfl]
  have g1 := F.called_set.notType
  have g2 := F.called_set.canCreate
  have g3 := F.typeCall_set_1 (.ref l)
  repeat (any_goals (first | assumption | wp_step))
  refine codeAny_mono (code_set_led1 (.ref l) (E := E) (Q₁ := fun x s1 => x = .ref s.heap.objs.size ∧ s1 = { s with heap := s.heap.push (nuS w) }) ⟨rfl, rfl⟩) fun r s1 hr => ?_
  match r, hr with
  | .ok (.ret x), hr =>
    obtain ⟨rfl, rfl⟩ := hr
    have nw : (s.heap.push (nuS w)).get? s.heap.objs.size = some (nuS w) := Heap.get?_push_size _ rfl
    have ty : Shared.TypeIs { s with heap := s.heap.push (nuS w) } (.ref s.heap.objs.size) "set" := ⟨_, nw, rfl⟩
    have g4 := F.called_set.init.lookup
    have g5 := F.called_set.init.bind (.ref s.heap.objs.size)
    repeat (any_goals (first | assumption | wp_step))
    refine codeAny_mono (codeAny_call_builtin (R := wants (fun y s2 => y = .none ∧ ∃ h1 tk c, s2 = { s with heap := h1, toks := tk } ∧ SetR w h1 s.heap.objs.size (fun j => decide (j ∈ ns)) c ∧ (∀ b o, s.heap.get? b = some o → h1.get? b = some o)) E) F.called_set.init.plain F.entry_set_init (check_set_init_1 ty ?_)) fun r2 s2 hr2 => ?_
    · obtain ⟨ol, hol, hcl, nl, hdl⟩ := hl
      obtain ⟨lc, ld, ldat, ls⟩ := ol
      simp only at hcl hdl
      subst hcl; subst hdl
      have ho2 : (s.heap.push (nuS w)).get? l = some { cls := .type "list", dict := ld, data := .seq us nl, slots := ls } := Heap.get?_push_of_some _ hol
      have s1' := F.sub_list_set
      have s2' := F.sub_list_frozenset
      have ne : (Value.type "list" == Value.type "dict") = false := by decide
      have il : (s.heap.push (nuS w)).IsList l us := ⟨_, ho2, rfl, nl, rfl⟩
      unfold Builtin.«set.__init__» noKeywords Builtin.Frozenset.updateFrom
      generalize hP : pyIter = PI
      wp_walk
      subst hP
      refine wpAny_pyIter_list il (wpAny_bind (wpAny_runValue ?_))
      have ll : l < s.heap.objs.size := Heap.lt_size hol
      have h3 : A.in1.in1.in1.handled = none := by simp [hh]
      have z1 : (s.heap.push (nuS w)).objs.size = s.heap.objs.size + 1 := Heap.size_push ..
      have nI : l ≠ (s.heap.push (nuS w)).objs.size := by rw [z1]; exact Nat.ne_of_lt (Nat.lt_succ_of_lt ll)
      have nf : s.heap.objs.size ∉ [(s.heap.push (nuS w)).objs.size, l] := by
        rw [z1]; simp only [List.mem_cons, List.not_mem_nil, or_false, not_or]
        exact ⟨Nat.ne_of_lt (Nat.lt_succ_self _), Nat.ne_of_gt ll⟩
      have vl : ∀ (i : Nat) (v : Value), us[i]? = some v → ∃ k t, ns[i]? = some k ∧ v = .int k t := fun i v hv => by
        have lt : i < ns.length := by rw [← sz]; exact (Array.getElem?_eq_some_iff.mp hv).1
        obtain ⟨t, e⟩ := PyProof.Rows.IntsAre.int_at hi i v (by rw [Array.getElem?_toList]; exact hv)
        exact ⟨ns[i], t, List.getElem?_eq_getElem lt, by rw [e, List.getD_eq_getElem?_getD, List.getElem?_eq_getElem lt]; rfl⟩
      refine set_update_ints ((Walks.list h3 _ l nI us).toS) s.heap.objs.size nf ns sz hb vl (us.size - 0) 0 _ (by omega) (Nat.zero_le _) ⟨⟨_, Heap.get?_push_size _ rfl, rfl, rfl⟩, il.push _⟩ ⟨0, Nat.le_refl 0, setR_new_at (Heap.get?_push_of_some _ nw)⟩ fun s3 c mv _ R => ?_
      obtain ⟨h1, gs, dr, tk, os⟩ := s3
      have e1 : gs = s.gens := mv.gens
      have e2 : dr = s.drawn := mv.drawn
      have e3 : os = s.os := mv.os
      subst e1 e2 e3
      show wpAny _ _ _ _ _ _
      refine wpAny_pure ?_
      show wpAny _ _ (ret Value.none) _ _ _
      refine wpAny_pure ⟨rfl, h1, tk, c, rfl, R, fun b o e => ?_⟩
      have b0 : b < s.heap.objs.size := Heap.lt_size e
      exact mv.heap b o (by simp only [List.mem_cons, List.not_mem_nil, or_false, not_or]; exact ⟨Nat.ne_of_lt b0, by rw [z1]; exact Nat.ne_of_lt (Nat.lt_succ_of_lt b0)⟩) (Heap.get?_push_of_some _ (Heap.get?_push_of_some _ e))
    · match r2, hr2 with
      | .ok (.ret y), hr2 =>
        obtain ⟨rfl, h1, tk, c, rfl, R, kp⟩ := hr2
        repeat (any_goals (first | assumption | wp_step))
        exact q _ _ _ R kp
      | .error e, hr2 => exact hr2
  | .error e, hr => exact hr
end
def rSetL (K : PySem.W.Frag) (w : World) : List V → Hp → VK → Prop := fun xs H Q => ∃ (l : Addr) (ns : List Int), xs = [V.ref l] ∧ SqL K H l (ns.map V.int) ∧ ns.length ≤ 1000 ∧ ∀ (p : Addr), H p = none → Q (.ref p) (upd H p (SiO w p (fun j => decide (j ∈ ns)) (usrt ns).length))
section
variable {X : Cx} {W : WX} {e : Expr} {d : DE} {p pos p2 pos2 : Pos}
theorem cr_setL (hc : X.calm = true) : CallR X (.type "set") (rSetL X.K X.w) := by
  intro pins s σ H xs us Q I r h
  obtain ⟨l, ns, rfl, hq, hl, q⟩ := h
  obtain ⟨its, rv, pl, _⟩ := I.list hq
  rw [Vals.ref1 r]
  have hb : ns.length + 1 < scanBound := by
    have : (1001 : Nat) < scanBound := by decide
    omega
  refine call_setL ns (I.ok.hd hc) pl.isList (by simpa using intsAre_of rv) hb fun h1 tk c R kp => ?_
  have ec := setR_count R (ns := ns) fun k => decide_eq_true_iff
  subst ec
  exact ⟨.ref _, _, I.laid (t' := tk) kp (Nat.le_refl _) (siO_ok R), rfl, q _ (I.hok.fresh (Nat.le_refl _))⟩
/-- sorted(set(e)) -/
def dSortSet (d : DE) : DE := fun env => (d env).bindD fun x env => match x with
  | .list ds => match intsD ds with
    | some ns => if ns.length ≤ 1000 ∧ (usrt ns).length < 64 then .ok (.lst ((usrt ns).map .int)) env else .stuck
    | none => .stuck
  | _ => .stuck
theorem SE.sortSet (hm : X.mg "sorted" = none) (hg : Gl X "sorted") (hm2 : X.mg "set" = none) (hg2 : Gl X "set") (hc : X.calm = true) (hs : starEach [.Call (.Name "set" p2) [e] [] pos2] X.env = (false, eval (.Call (.Name "set" p2) [e] [] pos2) X.env) :: starEach [] X.env) (hpl : (backTo pos (starEach [] X.env)).any (·.1) = false)
    (hs2 : starEach [e] X.env = (false, eval e X.env) :: starEach [] X.env) (hpl2 : (backTo pos2 (starEach [] X.env)).any (·.1) = false) (h : SE X W e d) :
    SE X W (.Call (.Name "sorted" p) [.Call (.Name "set" p2) [e] [] pos2] [] pos) (dSortSet d) := fun F ps σ G H A Q env I R P =>
  PE.go (pe_callB (cr_sortedSet hc) hg hm (by decide +kernel) (pa_cons pe_run pa_nil hs) (by decide) (by decide) hs hpl) (PE.go (pe_callTy (cr_setL hc) hg2 hm2 (by decide +kernel) (pa_cons pe_run pa_nil hs2) (by decide) (by decide) hs2 hpl2)
    (h.seqD I R P fun x env1 v G1 H1 A1 s1 I1 i1 R1 P1 => by
      cases x with
      | list ds =>
        dsimp only at P1
        cases q : intsD ds with
        | none => rw [q] at P1; exact P1.elim
        | some ns =>
          rw [q] at P1
          dsimp only at P1
          by_cases c : ns.length ≤ 1000 ∧ (usrt ns).length < 64
          · rw [if_pos c] at P1
            obtain ⟨a, vs, rfl, ha, r⟩ := i1.listE
            have ev := intsD_is r q
            subst ev
            refine ⟨a, ns, rfl, SqL.of (R1.gh _ _ ha), c.1, fun p hp => ⟨p, _, _, rfl, upd_same, c.2, fun out t pw mem len ht => ?_⟩⟩
            obtain ⟨u1, u2, _⟩ := usrt_ok ns
            have eo : out = usrt ns := sortedI_uniq pw u1 fun k => by rw [mem, u2]; simp
            subst eo
            have np : t ≠ p := fun z => by rw [z, upd_same] at ht; cases ht
            have ht2 : H1 t = none := by rw [upd_ne np] at ht; exact ht
            have s2 := Same.new (o := SiO X.w p (fun j => decide (j ∈ ns)) (usrt ns).length) R1.gh hp
            have R2 := R1.new (o := SiO X.w p (fun j => decide (j ∈ ns)) (usrt ns).length) hp
            have I2 := I1.up (H' := upd H1 p (SiO X.w p (fun j => decide (j ∈ ns)) (usrt ns).length)) s2 (upd_off (R1.ne hp))
            exact (show okE X F ps σ G Q (.lst ((usrt ns).map .int)) env1 from P1) (.ref t) _ _ A1 [t] (s1.trans s2) (I2.up (Same.refl _) (upd_off (R2.ne ht))) (.lst upd_same (IsL.of_ints _)) (R2.mine ht)
          · rw [if_neg c] at P1; exact P1.elim
      | _ => exact P1.elim))
end
end Dn

/-! argument lists of calls with keywords -/
namespace Dn
open PySem PySem.Spec PyProof.Rows L2
theorem bs2 {pos : Pos} {e : Expr} {es : List Expr} {env : Env} (h : plE e = true) : backTo pos (starEach (e :: es) env) = (false, eval e env) :: backTo pos (starEach es env) := by rw [sp h]; rfl
theorem bs3 {pos : Pos} {env : Env} {es : List Expr} (h : es.all plE = true) : (backTo pos (starEach es env)).any (·.1) = false := bt h
theorem bk {pos : Pos} {env : Env} {es : List Expr} {kx : Str} {e2 : Expr} {kp : Pos} (h : es.all plE = true) : ((backTo pos (starEach es env)).any (·.1) || (backToKw pos (keywordEach [⟨some kx, e2, kp⟩] env)).any (·.1.isNone)) = false := by rw [bt h]; rfl
end Dn

/-! enumerate of lists and tuples -/
namespace ZK
open PySem PySem.Spec PyProof.Rows L2
open AutoSeq1 (wpAny_loadPart')
set_option maxHeartbeats 1000000 in
theorem meets_enumT (l : Addr) (its : Array Value) (n : Nat) (dd : Option Addr) (sl : Array (Option Value)) :
    Meets (Builtin.«enumerate.__new__» ⟨[.type "enumerate", .ref l], []⟩) (fun _ R s => s.heap.get? l = some { cls := .type "tuple", dict := dd, data := .seq its n, slots := sl } ∧
      R (.ok (.ret (.ref (s.heap.push (itO true l)).objs.size))) { s with heap := (s.heap.push (itO true l)).push { cls := .type "enumerate", data := .fields #[.none, .bool false, .ref s.heap.objs.size, rawInt 0, .none, .none] } }) :=
  .of_wp fun prog w A R s h => by
    obtain ⟨k, gs, dr, tk, os⟩ := s; obtain ⟨hl, h⟩ := h
    have sb := sub_enumerate
    have tp : Heap.IsTuple (Shared.heap ⟨k, gs, dr, tk, os⟩) l its := ⟨_, hl, rfl, n, rfl⟩
    wp_walk using wpAny_loadPart' hl
    refine wpAny_stack_any fun st => wpAny_pure ?_
    split
    · rename_i c _ _ _ _ _
      cases (c == Value.type "enumerate")
      · wp_walk using wpAny_loadPart' hl, wpAny_pyIter_tuple tp
        exact ⟨_, rfl, h⟩
      · wp_walk using wpAny_loadPart' hl, wpAny_pyIter_tuple tp
        exact ⟨_, rfl, h⟩
    · wp_walk using wpAny_loadPart' hl, wpAny_pyIter_tuple tp
      exact ⟨_, rfl, h⟩
section
variable {prog : Program} {w : World} {A : Around} {E : Value → Shared → Prop} {s : Shared}
theorem call_enumS {k : Bool} {l : Addr} {its : Array Value} {Q : Value → Shared → Prop} (hl : IsS k s.heap l its)
    (q : ∀ h', IsEnum h' (s.heap.objs.size + 1) s.heap.objs.size 0 .none → ItS k h' s.heap.objs.size l 0 → (∀ b o, s.heap.get? b = some o → h'.get? b = some o) → Q (.ref (s.heap.objs.size + 1)) { s with heap := h' }) :
    wpAny (model prog w) A (call (.type "enumerate") [.ref l]) Q E s := by
  cases k with
  | false => exact call_enumerate_list hl fun h' a b _ c => q h' a b c
  | true =>
    obtain ⟨⟨c, dd, dt, sl⟩, e, hc, n, hd⟩ := hl
    replace hc : c = .type "tuple" := hc
    replace hd : dt = .seq its n := hd
    subst hc hd
    refine callType_new F.called_enumerate (by decide) (F.typeCall_enumerate_1 _) (F.newCall_enumerate_1 _) (fun o => F.args_object_init_2 o _) F.entry_enumerate_new (meets_enumT l its n dd sl) ⟨e, ?_⟩
    have n1 : (s.heap.push (itO true l)).objs.size = s.heap.objs.size + 1 := Heap.size_push ..
    show _ ∧ _
    rw [n1]
    have he : IsEnum ((s.heap.push (itO true l)).push { cls := .type "enumerate", data := .fields #[.none, .bool false, .ref s.heap.objs.size, rawInt 0, .none, .none] }) (s.heap.objs.size + 1) s.heap.objs.size 0 .none := by
      have := Heap.get?_push_size (s.heap.push (itO true l)) (o := { cls := .type "enumerate", data := .fields #[.none, .bool false, .ref s.heap.objs.size, rawInt 0, .none, .none] }) rfl
      rw [n1] at this; exact this
    exact ⟨⟨_, he, rfl⟩, q _ he (itS_0 (k := true) (Heap.get?_push_of_some _ (Heap.get?_push_size _ rfl))) fun b o x => Heap.get?_push_of_some _ (Heap.get?_push_of_some _ x)⟩
end
/-- the numbered items, turn by turn -/
def ItN (K : PySem.W.Frag) (k : Bool) (a : Addr) : It :=
  ⟨fun i H => ∃ (xs : List V) (x : V), Sq K k H a xs ∧ xs[i]? = some x, fun i H v H' => ∃ T x, v = .ref T ∧ H T = none ∧ H' = upd H T (.tup [.int (i : Nat), x]) ∧ ∀ xs, Sq K k H a xs → xs[i]? = some x, fun i H => ∃ xs : List V, Sq K k H a xs ∧ xs.length = i⟩
theorem turn_enumS {P : Program} {w : World} {K : PySem.W.Frag} {elts : List Expr} {kk : Nat} {tpos : Pos} {k : Bool} {a e it : Addr} (na : a ≠ it) (nea : e ≠ a) (nei : e ≠ it) :
    Turn P w K (.Tuple elts kk tpos) (ItN K k a) [e, it] e (fun i h => (∃ old, IsEnum h e it ((i : Nat) : Int) old) ∧ ItS k h it a i) where
  mem := by simp
  obj := fun i h st b hb => by
    obtain ⟨⟨old, he⟩, hi⟩ := st
    simp only [List.mem_cons, List.not_mem_nil, or_false] at hb
    rcases hb with z | z
    · rw [z]; exact ⟨_, he, fun v q => nomatch q⟩
    · rw [z]; exact hi.get
  keep := fun i h h' st m => let ⟨⟨old, he⟩, hi⟩ := st; ⟨⟨old, m e (by simp) _ he⟩, hi.at fun o q => m it (by simp) o q⟩
  item := by
    intro X hP hw hK hc i pins s σ H E I hf st hg
    subst hP hw hK
    obtain ⟨⟨old, he⟩, hit⟩ := st
    obtain ⟨xs, x, hq, hx⟩ := hg
    obtain ⟨us, ru, pu⟩ := Inv.sq I hq
    obtain ⟨u, hu, r1⟩ := ru.get hx
    have hh : X.A.in1.handled = none := I.ok.hd hc
    have el : e < s.heap.objs.size := Heap.lt_size he
    refine wpAny_pyNext_enum_itemC (draws_s hh k it a na us.toArray) he ⟨hit, pu⟩ (by simpa using (List.getElem?_eq_some_iff.mp hu).1) nei (by simp only [List.mem_cons, List.not_mem_nil, or_false, not_or]; exact ⟨nei, nea⟩) fun x1 h' tk px ho t1 hT hsz hk => ?_
    have ex : x1 = u := by
      have : us.toArray[i]? = some u := by simpa using hu
      rw [this] at px; exact (Option.some.inj px).symm
    subst ex
    refine ⟨_, rfl, wpAny_letOwnedTupleGo_enum (s := { s with heap := h', toks := tk + 1 }) ho fun h2 he2 sb => ?_⟩
    have hT2 : h2.get? s.heap.objs.size = some { cls := .type "tuple", data := .seq #[.int (i : Nat) tk, x1] } := (sb.2 _ (Nat.ne_of_gt el)).trans hT
    have nw : ObjOk X.prog X.w (upd H s.heap.objs.size (.tup [.int (i : Nat), x])) h2 s.heap.objs.size (.tup [.int (i : Nat), x]) :=
      ⟨by show 2 ≤ sizeLine; decide, [.int (i : Nat) tk, x1], .cons ⟨_, rfl⟩ (.cons r1 .nil), ⟨_, hT2, rfl, _, rfl⟩⟩
    have I1 : Inv X pins σ (upd H s.heap.objs.size (.tup [.int (i : Nat), x])) { s with heap := h2, toks := tk + 1 } :=
      I.turnedNew (t' := tk + 1) (ch := [e, it]) (fun b o hb q => (sb.2 b (fun z => hb (by simp [z]))).trans (hk b o (fun z => hb (by simp [z])) (fun z => hb (by simp [z])) q)) hf (Nat.le_refl _) nw
    refine ⟨.ref s.heap.objs.size, _, I1, rfl, ⟨_, x, rfl, I.hok.fresh (Nat.le_refl _), rfl, fun l hl => by rw [Inv.sq_inj I hl hq]; exact hx⟩, ⟨⟨x1, ?_⟩, t1.1.at fun o q => (sb.2 it (Ne.symm nei)).trans q⟩, fun b hb => ?_⟩
    · have e1 : ((i + 1 : Nat) : Int) = (i : Int) + 1 := by omega
      rw [e1]; exact he2
    · have lt : b < s.heap.objs.size := by
        simp only [List.mem_cons, List.not_mem_nil, or_false] at hb
        rcases hb with z | z
        · rw [z]; exact el
        · rw [z]; obtain ⟨_, q, _⟩ := hit.get; exact Heap.lt_size q
      rw [upd_ne (Nat.ne_of_lt lt)]
      exact (hf b hb).1
  done := by
    intro X hP hw hK hc i pins s σ H E I hf st hg
    subst hP hw hK
    obtain ⟨⟨old, he⟩, hit⟩ := st
    obtain ⟨xs, hq, hx⟩ := hg
    obtain ⟨us, ru, pu⟩ := Inv.sq I hq
    obtain ⟨f0, f1, f2, f3, f4, f5⟩ := hf it (by simp)
    have hl := ru.length
    have hh : X.A.in1.handled = none := I.ok.hd hc
    have ei : i = us.toArray.size := by simp; omega
    subst ei
    exact wpAny_pyNext_enum_endD (draws_s hh k it a na us.toArray) he ⟨hit, pu⟩ fun h' eb => ⟨rfl, I.turned (t' := s.toks) (fun b o hb q => eb b o hb q) f0 f1 f3 f4 f5⟩
  self := fun A i s Q E st h => let ⟨⟨_, he⟩, _⟩ := st; wpAny_pyIter_enum he h
def iEnS (K : PySem.W.Frag) (ta : TA) : TI := fun σ H R => ta σ H fun vs H1 => ∃ k a xs, vs = [.ref a] ∧ Sq K k H1 a xs ∧ R (ItN K k a) H1
theorem pi_enumS {X : Cx} {e : Expr} {ta : TA} {p pos tpos : Pos} {elts : List Expr} {kk : Nat} (hg : Gl X "enumerate") (hm : X.mg "enumerate" = none) (ha : PA X [e] ta) (hs : starEach [e] X.env = [(false, eval e X.env)] := by rfl) :
    PI X (.Tuple elts kk tpos) (.Call (.Name "enumerate" p) [e] [] pos) (iEnS X.K ta) := by
  refine ⟨fun pins s σ H R I h => ?_⟩
  refine Call_ (ld_blt I hg hm boot_enumerate (PyProof.Rows.callWith_type1 (thn (ha.run pos pins s σ H _ I h) fun us s1 ⟨vs, H1, I1, r1, q1⟩ => ?_) hs rfl))
  obtain ⟨k, a, xs, ex, hq, q⟩ := q1
  subst ex
  cases r1 with
  | cons r rr =>
    cases rr
    cases r
    obtain ⟨ws, _, pu⟩ := Inv.sq I1 hq
    have la : a < s1.heap.objs.size := by
      cases k
      · obtain ⟨o, e, _⟩ := pu; exact Heap.lt_size e
      · obtain ⟨o, e, _⟩ := pu; exact Heap.lt_size e
    refine call_enumS pu fun h' he hit hk => wpAny_pyIter_enum he ?_
    have I2 : Inv X pins σ H1 { s1 with heap := h' } := I1.kept (t' := s1.toks) hk
    refine ⟨s1.heap.objs.size + 1, [s1.heap.objs.size + 1, s1.heap.objs.size], _, _, H1, rfl, I2, turn_enumS (Nat.ne_of_lt la) (Nat.ne_of_gt (Nat.lt_succ_of_lt la)) (Nat.succ_ne_self _), ⟨⟨.none, he⟩, hit⟩, fun b hb => ?_, q⟩
    have hle : s1.heap.objs.size ≤ b := by
      simp only [List.mem_cons, List.not_mem_nil, or_false] at hb
      rcases hb with z | z
      · rw [z]; exact Nat.le_add_right _ _
      · rw [z]; exact Nat.le_refl _
    exact I1.fpOk hle (I1.hok.fresh hle)
end ZK
namespace Dn
open PySem PySem.Spec PyProof.Rows L2 ZK
theorem Walked.enumS {K : PySem.W.Frag} {k : Bool} {a : Addr} {vs : List V} {xs : List D} {G0 : Hp} (h : ∀ H', Same G0 H' → Sq K k H' a vs) (r : IsL K G0 vs xs) : Walked K (ItN K k a) G0 (enumD 0 xs) where
  go := fun F i G H A hi f s => by
    rw [enumD_len] at hi
    obtain ⟨v, ev, _⟩ := r.at (i := i) (List.getElem?_eq_getElem hi)
    exact ⟨vs, v, h _ (s.trans f.gh), ev⟩
  yl := fun F i x v G H H' A hi f s y => by
    obtain ⟨T, u, rfl, hT, rfl, y⟩ := y
    obtain ⟨d, ed, p⟩ := r.get (y vs (h _ (s.trans f.gh)))
    rw [enumD_get 0 xs i d ed] at hi
    cases hi
    have s2 := Same.new (o := .tup [.int (i : Nat), u]) f.gh hT
    refine ⟨_, s2, f.new hT, upd_off (f.ne hT), .tup upd_same (.cons ?_ (.cons ((p.up s).up s2) .nil))⟩
    rw [Int.zero_add]
    exact .int _
  st := fun F G H A f s => ⟨vs, h _ (s.trans f.gh), by rw [enumD_len, r.length]⟩
def enmS : List D → Option (List D)
  | [x] => (seqZ x).map (enumD 0)
  | _ => none
theorem SI.enumS {X : Cx} {W : WX} {e : Expr} {p pos tpos : Pos} {elts : List Expr} {kk : Nat} {ds : Ev → Rs (List D)} (hg : Gl X "enumerate") (hm : X.mg "enumerate" = none) (hs : starEach [e] X.env = [(false, eval e X.env)]) (h : SA X W [e] ds) : SI X W (.Tuple elts kk tpos) (.Call (.Name "enumerate" p) [e] [] pos) (dRng enmS ds) := fun F ps σ G H A Q env I R P =>
  PI.go (pi_enumS hg hm pa_run hs) (h.seq I R P fun xs env1 vs G1 H1 A1 s1 I1 i1 R1 P1 => by
    cases q : enmS xs with
    | none => rw [q] at P1; exact P1.elim
    | some ys =>
      rw [q] at P1
      have P1 : ∀ J G' H' A', Same G G' → EvIs X.K G' H' ps σ env1 A' → Rel F G' H' A' → Walked X.K J G' ys → Q J H' := P1
      unfold enmS at q
      split at q
      · obtain ⟨zs, q1, rfl⟩ := Option.map_eq_some_iff.mp q
        cases i1 with
        | cons h1 t =>
          cases t
          obtain ⟨k, a, ws, rfl, g, r⟩ := Is.sqE h1 q1
          exact ⟨k, a, ws, rfl, g _ R1.gh, P1 _ G1 H1 A1 s1 I1 R1 (.enumS g r)⟩
      · cases q)
end Dn

namespace Hd
open PySem PySem.Spec PyProof.Rows L2 Dn
def top (i : Nat) : Stmt := PySem.Challenge.pw_laprunners_k68_speeds_and_next_looks.main.body.getD i (.Pass ⟨0, 0, 0, 0⟩)
abbrev s_is_integer : Stmt := top 7
def d_is_integer : He.DefD := ⟨("is_integer", none), "is_integer", "is_integer", defArgs s_is_integer, defBody s_is_integer, defScope s_is_integer, [], []⟩
abbrev s_common_divisor : Stmt := top 8
def d_common_divisor : He.DefD := ⟨("common_divisor", none), "common_divisor", "common_divisor", defArgs s_common_divisor, defBody s_common_divisor, defScope s_common_divisor, [], []⟩
abbrev s_extended_divisor : Stmt := top 10
def d_extended_divisor : He.DefD := ⟨("extended_divisor", none), "extended_divisor", "extended_divisor", defArgs s_extended_divisor, defBody s_extended_divisor, defScope s_extended_divisor, [], []⟩
abbrev s_combined : Stmt := top 11
def d_combined : He.DefD := ⟨("combined", none), "combined", "combined", defArgs s_combined, defBody s_combined, defScope s_combined, [], []⟩
abbrev s_validate_length : Stmt := top 15
def d_validate_length : He.DefD := ⟨("validate_length", none), "validate_length", "validate_length", defArgs s_validate_length, defBody s_validate_length, defScope s_validate_length, [], []⟩
abbrev s_is_observation : Stmt := top 16
def d_is_observation : He.DefD := ⟨("is_observation", none), "is_observation", "is_observation", defArgs s_is_observation, defBody s_is_observation, defScope s_is_observation, [], []⟩
abbrev s_validate_observations : Stmt := top 17
def d_validate_observations : He.DefD := ⟨("validate_observations", none), "validate_observations", "validate_observations", defArgs s_validate_observations, defBody s_validate_observations, defScope s_validate_observations, [], []⟩
abbrev s_combined_times : Stmt := top 18
def d_combined_times : He.DefD := ⟨("combined_times", none), "combined_times", "combined_times", defArgs s_combined_times, defBody s_combined_times, defScope s_combined_times, [], []⟩
abbrev s_find_class : Stmt := top 19
def d_find_class : He.DefD := ⟨("find_class", none), "find_class", "find_class", defArgs s_find_class, defBody s_find_class, defScope s_find_class, [], []⟩
abbrev s_validate_bounds : Stmt := top 20
def d_validate_bounds : He.DefD := ⟨("validate_bounds", none), "validate_bounds", "validate_bounds", defArgs s_validate_bounds, defBody s_validate_bounds, defScope s_validate_bounds, [], []⟩
abbrev s_count_speeds : Stmt := top 21
def d_count_speeds : He.DefD := ⟨("count_speeds", none), "count_speeds", "count_speeds", defArgs s_count_speeds, defBody s_count_speeds, defScope s_count_speeds, [], []⟩
abbrev s_speeds_between : Stmt := top 22
def d_speeds_between : He.DefD := ⟨("speeds_between", none), "speeds_between", "speeds_between", defArgs s_speeds_between, defBody s_speeds_between, defScope s_speeds_between, [], []⟩
abbrev s_next_look : Stmt := top 23
def d_next_look : He.DefD := ⟨("next_look", none), "next_look", "next_look", defArgs s_next_look, defBody s_next_look, defScope s_next_look, [], [("after", .int 0)]⟩
abbrev s__law_pool : Stmt := top 25
def d__law_pool : He.DefD := ⟨("_law_pool", none), "_law_pool", "_law_pool", defArgs s__law_pool, defBody s__law_pool, defScope s__law_pool, [], []⟩
abbrev s__law_draw : Stmt := top 26
def d__law_draw : He.DefD := ⟨("_law_draw", none), "_law_draw", "_law_draw", defArgs s__law_draw, defBody s__law_draw, defScope s__law_draw, [], []⟩
abbrev s__law_observations : Stmt := top 27
def d__law_observations : He.DefD := ⟨("_law_observations", none), "_law_observations", "_law_observations", defArgs s__law_observations, defBody s__law_observations, defScope s__law_observations, [], []⟩
abbrev s__law_fits : Stmt := top 28
def d__law_fits : He.DefD := ⟨("_law_fits", none), "_law_fits", "_law_fits", defArgs s__law_fits, defBody s__law_fits, defScope s__law_fits, [], []⟩
abbrev s__law_look : Stmt := top 29
def d__law_look : He.DefD := ⟨("_law_look", none), "_law_look", "_law_look", defArgs s__law_look, defBody s__law_look, defScope s__law_look, [], []⟩
abbrev s_law : Stmt := top 30
def d_law : He.DefD := ⟨("law", none), "law", "law", defArgs s_law, defBody s_law, defScope s_law, [], []⟩
def fn : List He.DefD := ([d_is_integer, d_common_divisor, d_extended_divisor, d_combined, d_validate_length, d_is_observation, d_validate_observations, d_combined_times, d_find_class, d_validate_bounds, d_count_speeds, d_speeds_between, d_next_look, d__law_pool, d__law_draw, d__law_observations, d__law_fits, d__law_look, d_law] : List He.DefD)
def fa : List He.Fa := ([.glo "InvalidNumber", .glo "InvalidLength", .glo "InvalidTime", .glo "LimitExceeded", .glo "InvalidObservation", .glo "is_integer", .glo "common_divisor", .glo "extended_divisor", .glo "combined", .glo "validate_length", .glo "is_observation", .glo "validate_observations", .glo "combined_times", .glo "find_class", .glo "validate_bounds", .glo "count_speeds", .glo "speeds_between", .glo "next_look", .glo "_law_pool", .glo "_law_draw", .glo "_law_observations", .glo "_law_fits", .glo "_law_look", .glo "law", .free "OverflowError", .free "ValueError", .free "abs", .free "bool", .free "enumerate", .free "int"] : List He.Fa) ++ ([.free "isinstance", .free "len", .free "list", .free "range", .free "set", .free "sorted", .free "sum", .free "tuple", .free "zip", .int "MAX_SPEEDS" 2000, .int "MAX_OBSERVATIONS" 50] : List He.Fa)
def pr : List PrD := ([] : List PrD)
def qs : List (PySem.W.Frag → Bool) := []
abbrev TT (K : PySem.W.Frag) (mg : Str → Option Value) (h : Heap) : Prop := TbX qs pr fa fn K mg h
section
variable {K : PySem.W.Frag} {mg : Str → Option Value} {h : Heap}
theorem g_InvalidNumber (T : TT K mg h) : mg "InvalidNumber" = some (.ref (He.ga K "InvalidNumber")) := T.tb.glo "InvalidNumber" 0 rfl
theorem g_InvalidLength (T : TT K mg h) : mg "InvalidLength" = some (.ref (He.ga K "InvalidLength")) := T.tb.glo "InvalidLength" 1 rfl
theorem g_InvalidTime (T : TT K mg h) : mg "InvalidTime" = some (.ref (He.ga K "InvalidTime")) := T.tb.glo "InvalidTime" 2 rfl
theorem g_LimitExceeded (T : TT K mg h) : mg "LimitExceeded" = some (.ref (He.ga K "LimitExceeded")) := T.tb.glo "LimitExceeded" 3 rfl
theorem g_InvalidObservation (T : TT K mg h) : mg "InvalidObservation" = some (.ref (He.ga K "InvalidObservation")) := T.tb.glo "InvalidObservation" 4 rfl
theorem g_is_integer (T : TT K mg h) : mg "is_integer" = some (.ref (He.ga K "is_integer")) := T.tb.glo "is_integer" 5 rfl
theorem g_common_divisor (T : TT K mg h) : mg "common_divisor" = some (.ref (He.ga K "common_divisor")) := T.tb.glo "common_divisor" 6 rfl
theorem g_extended_divisor (T : TT K mg h) : mg "extended_divisor" = some (.ref (He.ga K "extended_divisor")) := T.tb.glo "extended_divisor" 7 rfl
theorem g_combined (T : TT K mg h) : mg "combined" = some (.ref (He.ga K "combined")) := T.tb.glo "combined" 8 rfl
theorem g_validate_length (T : TT K mg h) : mg "validate_length" = some (.ref (He.ga K "validate_length")) := T.tb.glo "validate_length" 9 rfl
theorem g_is_observation (T : TT K mg h) : mg "is_observation" = some (.ref (He.ga K "is_observation")) := T.tb.glo "is_observation" 10 rfl
theorem g_validate_observations (T : TT K mg h) : mg "validate_observations" = some (.ref (He.ga K "validate_observations")) := T.tb.glo "validate_observations" 11 rfl
theorem g_combined_times (T : TT K mg h) : mg "combined_times" = some (.ref (He.ga K "combined_times")) := T.tb.glo "combined_times" 12 rfl
theorem g_find_class (T : TT K mg h) : mg "find_class" = some (.ref (He.ga K "find_class")) := T.tb.glo "find_class" 13 rfl
theorem g_validate_bounds (T : TT K mg h) : mg "validate_bounds" = some (.ref (He.ga K "validate_bounds")) := T.tb.glo "validate_bounds" 14 rfl
theorem g_count_speeds (T : TT K mg h) : mg "count_speeds" = some (.ref (He.ga K "count_speeds")) := T.tb.glo "count_speeds" 15 rfl
theorem g_speeds_between (T : TT K mg h) : mg "speeds_between" = some (.ref (He.ga K "speeds_between")) := T.tb.glo "speeds_between" 16 rfl
theorem g_next_look (T : TT K mg h) : mg "next_look" = some (.ref (He.ga K "next_look")) := T.tb.glo "next_look" 17 rfl
theorem g__law_pool (T : TT K mg h) : mg "_law_pool" = some (.ref (He.ga K "_law_pool")) := T.tb.glo "_law_pool" 18 rfl
theorem g__law_draw (T : TT K mg h) : mg "_law_draw" = some (.ref (He.ga K "_law_draw")) := T.tb.glo "_law_draw" 19 rfl
theorem g__law_observations (T : TT K mg h) : mg "_law_observations" = some (.ref (He.ga K "_law_observations")) := T.tb.glo "_law_observations" 20 rfl
theorem g__law_fits (T : TT K mg h) : mg "_law_fits" = some (.ref (He.ga K "_law_fits")) := T.tb.glo "_law_fits" 21 rfl
theorem g__law_look (T : TT K mg h) : mg "_law_look" = some (.ref (He.ga K "_law_look")) := T.tb.glo "_law_look" 22 rfl
theorem g_law (T : TT K mg h) : mg "law" = some (.ref (He.ga K "law")) := T.tb.glo "law" 23 rfl
theorem b_OverflowError (T : TT K mg h) : mg "OverflowError" = none := T.tb.free "OverflowError" 24 rfl
theorem b_ValueError (T : TT K mg h) : mg "ValueError" = none := T.tb.free "ValueError" 25 rfl
theorem b_abs (T : TT K mg h) : mg "abs" = none := T.tb.free "abs" 26 rfl
theorem b_bool (T : TT K mg h) : mg "bool" = none := T.tb.free "bool" 27 rfl
theorem b_enumerate (T : TT K mg h) : mg "enumerate" = none := T.tb.free "enumerate" 28 rfl
theorem b_int (T : TT K mg h) : mg "int" = none := T.tb.free "int" 29 rfl
theorem b_isinstance (T : TT K mg h) : mg "isinstance" = none := T.tb.free "isinstance" 30 rfl
theorem b_len (T : TT K mg h) : mg "len" = none := T.tb.free "len" 31 rfl
theorem b_list (T : TT K mg h) : mg "list" = none := T.tb.free "list" 32 rfl
theorem b_range (T : TT K mg h) : mg "range" = none := T.tb.free "range" 33 rfl
theorem b_set (T : TT K mg h) : mg "set" = none := T.tb.free "set" 34 rfl
theorem b_sorted (T : TT K mg h) : mg "sorted" = none := T.tb.free "sorted" 35 rfl
theorem b_sum (T : TT K mg h) : mg "sum" = none := T.tb.free "sum" 36 rfl
theorem b_tuple (T : TT K mg h) : mg "tuple" = none := T.tb.free "tuple" 37 rfl
theorem b_zip (T : TT K mg h) : mg "zip" = none := T.tb.free "zip" 38 rfl
theorem i_MAX_SPEEDS (T : TT K mg h) : ∃ t, mg "MAX_SPEEDS" = some (.int 2000 t) := T.tb.int "MAX_SPEEDS" 2000 39 rfl
theorem i_MAX_OBSERVATIONS (T : TT K mg h) : ∃ t, mg "MAX_OBSERVATIONS" = some (.int 50 t) := T.tb.int "MAX_OBSERVATIONS" 50 40 rfl
end
end Hd

noncomputable section
namespace Cd
open PySem Dn
open L2 (V)
/-! _law_draw(pool, many, found, cells, cell, mixed) -/
def m__law_draw : List Bool := [true, false]
def c__law_draw : DS := dSeq (dItemQ 0 [] (fun _ => some (.int 3)) (dBn oAdd (dIxp 0 (frzD (dC (.int 3)))) (frzD (dC (.int 1))))) (dSeq (dIte (aB (dBn oGt (dIxp 0 (frzD (dC (.int 2)))) (frzD (dC (.int 0))))) (dSeq (dSet 2 (dBn oMod (dIxp 0 (frzD (dC (.int 2)))) (pk 1))) (dSeq (dItemQ 0 [] (fun _ => some (.int 2)) (dBn oDiv (dIxp 0 (frzD (dC (.int 2)))) (pk 1))) (dSeq (dRetV 2) (dSkip)))) (dSkip)) (dSeq (dSet 3 (dBn oAdd (dIxp 0 (frzD (dC (.int 0)))) (frzD (dBn oMul (dLst (dCons (dC (.int 0)) (dNil))) (frzD (dB1 oInt (frzD (dBn oEq (dIxp 0 (frzD (dC (.int 0)))) (frzD (dLst (dNil))))))))))) (dSeq (dSet 4 (dIxp 3 (frzD (dBn oMod (dIxp 0 (frzD (dC (.int 1)))) (frzD (dB1 oLen (pk 3))))))) (dSeq (dItemQ 0 [] (fun _ => some (.int 1)) (dBn oAdd (dIxp 0 (frzD (dC (.int 1)))) (frzD (dC (.int 1))))) (dSeq (dIte (aB (dBp oGe 4 (frzD (dBn oPow (dC (.int 10)) (frzD (dC (.int 18))))))) (dSeq (dItemQ 0 [] (fun _ => some (.int 2)) (dBp oDiv 4 (pk 1))) (dSeq (dRet (dBp oMod 4 (pk 1))) (dSkip))) (dSkip)) (dSeq (dSet 5 (dBn oMod (dBp oAdd 4 (frzD (dBn oMul (dC (.int 7919)) (frzD (dIxp 0 (frzD (dC (.int 3)))))))) (frzD (dC (.int 2147483647))))) (dSeq (dRet (dBn oMod (dBn oDiv (dBn oMod (dBn oMul (dBp oPow 5 (frzD (dC (.int 5)))) (frzD (dC (.int 48271)))) (frzD (dC (.int 2147483629)))) (frzD (dC (.int 16)))) (pk 1))) (dSkip))))))))
def F__law_draw : Fn := fnOf m__law_draw 6 c__law_draw
/-! _law_fits(size, observations, speed, time, place) -/
def m__law_fits : List Bool := [false, false, false]
def c__law_fits : DS := dSeq (dRet (dBn oEq (dLc (dIt (dVar 1)) [3, 4] (turnD [3, 4] (gTup 2 (gCons (gNm 3) (gCons (gNm 4) (gNil)))) (aB (dBn oNe (dBn oMod (dBn oSub (dBp oMul 3 (pk 2)) (pk 4)) (pk 0)) (frzD (dC (.int 0))))) (dVar 3))) (frzD (dLst (dNil))))) (dSkip)
def F__law_fits : Fn := fnOf m__law_fits 5 c__law_fits
/-! _law_look(size, known, time, step, places, speed) -/
def m__law_look : List Bool := [false, false, false]
/-- places = [speed * step % size for speed in known] .. -/
def c__law_look_0 : DS := dSeq (dSet 4 (dLc (dIt (dVar 1)) [5] (turnD [5] (gNm 5) (dYes) (dBn oMod (dBp oMul 5 (pk 3)) (pk 0))))) (dSeq (dIte (aB (dBn oEq (dB1 oLen (frzD (dSortSet (dVar 4)))) (frzD (dB1 oLen (pk 4))))) (dSeq (dRetV 3) (dSkip)) (dSkip)) (dSkip))
def c__law_look : DS := dSeq (dFor (dRng rng2D (dCons (dBp oAdd 2 (frzD (dC (.int 1)))) (dCons (dBn oAdd (dBp oAdd 2 (frzD (dC (.int 1)))) (pk 0)) (dNil)))) (gNm 3) (c__law_look_0)) (dSeq (dRet (dC .none)) (dSkip))
def F__law_look : Fn := fnOf m__law_look 6 c__law_look
/-! _law_observations(pool, size, speed, found, turn, time, place) -/
def m__law_observations : List Bool := [true, false, false]
/-- time = _law_draw(pool, 14) .. -/
def c__law_observations_0 : DS := dSeq (dSet 5 (dCallO m__law_draw F__law_draw [] (rO 0 (rD (dC (.int 14)) (rNil))))) (dSeq (dSet 6 (dBn oAdd (dBp oMul 5 (pk 2)) (frzD (dBp oMul 1 (frzD (dBn oSub (dCallO m__law_draw F__law_draw [] (rO 0 (rD (dC (.int 5)) (rNil)))) (frzD (dC (.int 2))))))))) (dSeq (dExpr (dMut appT 3 (dTup (dCons (dVar 5) (dCons (dBp oAdd 6 (frzD (dB1 oInt (frzD (dBn oEq (dCallO m__law_draw F__law_draw [] (rO 0 (rD (dC (.int 9)) (rNil)))) (frzD (dC (.int 0)))))))) (dNil)))))) (dSkip)))
def c__law_observations : DS := dSeq (dSet 3 (dLst (dNil))) (dSeq (dFor (dRng rng1D (dCons (dCallO m__law_draw F__law_draw [] (rO 0 (rD (dC (.int 5)) (rNil)))) (dNil))) (gNm 4) (c__law_observations_0)) (dSeq (dRet (dIx (dLst (dCons (dVar 3) (dCons (dB1 oTuple (pk 3)) (dNil)))) (frzD (dCallO m__law_draw F__law_draw [] (rO 0 (rD (dC (.int 2)) (rNil))))))) (dSkip)))
def F__law_observations : Fn := fnOf m__law_observations 7 c__law_observations
/-! _law_pool(script) -/
def m__law_pool : List Bool := [false]
def c__law_pool : DS := dSeq (dRet (dLst (dCons (dSl (dVar 0) (oNo) (oSm (dC (.int 63)))) (dCons (dC (.int 0)) (dCons (dC (.int 0)) (dCons (dC (.int 0)) (dNil))))))) (dSkip)
def F__law_pool : Fn := fnOf m__law_pool 1 c__law_pool
/-! extended_divisor(first, second, old, new, factor, before, after, number) -/
def m_extended_divisor : List Bool := [false, false]
/-- factor = old[0] // new[0] .. -/
def c_extended_divisor_0 : DS := dSeq (dSet 4 (dBn oDiv (dIxp 2 (frzD (dC (.int 0)))) (frzD (dIxp 3 (frzD (dC (.int 0))))))) (dSeq (dPar2 2 3 (dVar 3) (dB1 oTuple (frzD (dLc (dRng (zipD true) (dCons (dVar 2) (dCons (dVar 3) (dNil)))) [5, 6] (turnD [5, 6] (gTup 2 (gCons (gNm 5) (gCons (gNm 6) (gNil)))) (dYes) (dBp oSub 5 (frzD (dBp oMul 4 (pk 6))))))))) (dSkip))
def c_extended_divisor : DS := dSeq (dPar2 2 3 (dTup (dCons (dVar 0) (dCons (dC (.int 1)) (dCons (dC (.int 0)) (dNil))))) (dTup (dCons (dVar 1) (dCons (dC (.int 0)) (dCons (dC (.int 1)) (dNil)))))) (dSeq (dWhile (aB (dBn oNe (dIxp 3 (frzD (dC (.int 0)))) (frzD (dC (.int 0))))) (c_extended_divisor_0)) (dSeq (dRet (dIf (aB (dBn oGe (dIxp 2 (frzD (dC (.int 0)))) (frzD (dC (.int 0))))) (dVar 2) (dB1 oTuple (frzD (dLc (dIt (dVar 2)) [7] (turnD [7] (gNm 7) (dYes) (dUn oNeg (pk 7)))))))) (dSkip)))
def F_extended_divisor : Fn := fnOf m_extended_divisor 8 c_extended_divisor
/-! combined(numbers, divisor, factors, number, old_factor, factor, other) -/
def m_combined : List Bool := [false]
/-- divisor, old_factor, factor = extended_divisor(divisor, number) .. -/
def c_combined_0 : DS := dSeq (dAsg (gTup 3 (gCons (gNm 1) (gCons (gNm 4) (gCons (gNm 5) (gNil))))) (dCallP F_extended_divisor 2 [] (dCons (dVar 1) (dCons (dVar 3) (dNil))))) (dSeq (dSet 2 (dBn oAdd (dLc (dIt (dVar 2)) [6] (turnD [6] (gNm 6) (dYes) (dBp oMul 4 (pk 6)))) (frzD (dLst (dCons (dVar 5) (dNil)))))) (dSkip))
def c_combined : DS := dSeq (dPar2 1 2 (dC (.int 0)) (dLst (dNil))) (dSeq (dFor (dIt (dVar 0)) (gNm 3) (c_combined_0)) (dSeq (dRet (dTup (dCons (dVar 1) (dCons (dVar 2) (dNil))))) (dSkip)))
def F_combined : Fn := fnOf m_combined 7 c_combined
/-! combined_times(length, observations, divisor, factors, time, place) -/
def m_combined_times : List Bool := [false, false]
def c_combined_times : DS := dSeq (dAsg (gTup 2 (gCons (gNm 2) (gCons (gNm 3) (gNil)))) (dCallP F_combined 1 [] (dCons (dBn oAdd (dLst (dCons (dVar 0) (dNil))) (frzD (dLc (dIt (dVar 1)) [4, 5] (turnD [4, 5] (gTup 2 (gCons (gNm 4) (gCons (gNm 5) (gNil)))) (dYes) (dVar 4))))) (dNil)))) (dSeq (dRet (dTup (dCons (dVar 2) (dCons (dSl (dVar 3) (oSm (dC (.int 1))) (oNo)) (dNil))))) (dSkip))
def F_combined_times : Fn := fnOf m_combined_times 6 c_combined_times
/-! find_class(length, observations, divisor, factors, total, factor, time, place, index, refusal, at, modulus) -/
def m_find_class : List Bool := [false, false]
/-- if (time // divisor * total - place) % length != 0:     refusal = [time // divisor * facto .. -/
def c_find_class_0 : DS := dSeq (dIte (aB (dBn oNe (dBn oMod (dBn oSub (dBn oMul (dBp oDiv 6 (pk 2)) (pk 4)) (pk 7)) (pk 0)) (frzD (dC (.int 0))))) (dSeq (dSet 9 (dLc (dRng enmS (dCons (dVar 3) (dNil))) [10, 5] (turnD [10, 5] (gTup 2 (gCons (gNm 10) (gCons (gNm 5) (gNil)))) (dYes) (dBn oSub (dBn oMul (dBp oDiv 6 (pk 2)) (pk 5)) (frzD (dB1 oInt (frzD (dBp oEq 10 (pk 8))))))))) (dSeq (dRet (dTup (dCons (dC .none) (dCons (dB1 oTuple (pk 9)) (dNil))))) (dSkip))) (dSkip)) (dSkip)
def c_find_class : DS := dSeq (dAsg (gTup 2 (gCons (gNm 2) (gCons (gNm 3) (gNil)))) (dCallP F_combined_times 2 [] (dCons (dVar 0) (dCons (dVar 1) (dNil))))) (dSeq (dSet 4 (dB1 oSum (frzD (dLc (dRng (zipD true) (dCons (dVar 3) (dCons (dVar 1) (dNil)))) [5, 6, 7] (turnD [5, 6, 7] (gTup 2 (gCons (gNm 5) (gCons (gTup 2 (gCons (gNm 6) (gCons (gNm 7) (gNil)))) (gNil)))) (dYes) (dBp oMul 5 (pk 7))))))) (dSeq (dIte (aB (dBn oNe (dBp oMod 4 (pk 2)) (frzD (dC (.int 0))))) (dSeq (dRet (dTup (dCons (dC .none) (dCons (dB1 oTuple (frzD (dLc (dIt (dVar 3)) [5] (turnD [5] (gNm 5) (dYes) (dBn oMul (dBp oDiv 0 (pk 2)) (pk 5)))))) (dNil))))) (dSkip)) (dSkip)) (dSeq (dFor (dRng enmS (dCons (dVar 1) (dNil))) (gTup 2 (gCons (gNm 8) (gCons (gTup 2 (gCons (gNm 6) (gCons (gNm 7) (gNil)))) (gNil)))) (c_find_class_0)) (dSeq (dSet 11 (dBp oDiv 0 (pk 2))) (dSeq (dRet (dTup (dCons (dTup (dCons (dBn oMod (dBp oDiv 4 (pk 2)) (pk 11)) (dCons (dVar 11) (dNil)))) (dCons (dC .none) (dNil))))) (dSkip))))))
def F_find_class : Fn := fnOf m_find_class 12 c_find_class
/-! is_integer(value) -/
def m_is_integer : List Bool := [false]
def c_is_integer : DS := dSeq (dRet (dAndV (dIsa "int" (pk 0)) (dNotV (dIsa "bool" (pk 0))))) (dSkip)
def F_is_integer : Fn := fnOf m_is_integer 1 c_is_integer
/-! validate_bounds(low, high) -/
def m_validate_bounds : List Bool := [false, false]
def c_validate_bounds : DS := dSeq (dIte (dOr (dNot (dTru (frzD (dCallP F_is_integer 1 [] (dCons (dVar 0) (dNil)))))) (dNot (dTru (frzD (dCallP F_is_integer 1 [] (dCons (dVar 1) (dNil))))))) (dSeq (dNo) (dSkip)) (dSkip)) (dSkip)
def F_validate_bounds : Fn := fnOf m_validate_bounds 2 c_validate_bounds
/-! is_observation(value) -/
def m_is_observation : List Bool := [false]
def c_is_observation : DS := dSeq (dIte (dOr (dNot (dTru (frzD (dIsa "tuple" (pk 0))))) (aB (dBn oNe (dB1 oLen (pk 0)) (frzD (dC (.int 2)))))) (dSeq (dRet (dC (.bool false))) (dSkip)) (dSkip)) (dSeq (dRet (dAndV (dCallP F_is_integer 1 [] (dCons (dIxp 0 (frzD (dC (.int 0)))) (dNil))) (dAndV (dCallP F_is_integer 1 [] (dCons (dIxp 0 (frzD (dC (.int 1)))) (dNil))) (dBn oGe (dIxp 0 (frzD (dC (.int 0)))) (frzD (dC (.int 0))))))) (dSkip))
def F_is_observation : Fn := fnOf m_is_observation 1 c_is_observation
/-! validate_length(length) -/
def m_validate_length : List Bool := [false]
def c_validate_length : DS := dSeq (dIte (dOr (dNot (dTru (frzD (dCallP F_is_integer 1 [] (dCons (dVar 0) (dNil)))))) (aB (dBp oLt 0 (frzD (dC (.int 1)))))) (dSeq (dNo) (dSkip)) (dSkip)) (dSkip)
def F_validate_length : Fn := fnOf m_validate_length 1 c_validate_length
/-! validate_observations(length, observations, index, observation) -/
def m_validate_observations : List Bool := [false, false]
/-- if not is_observation(observation):     raise InvalidObservation(index) .. -/
def c_validate_observations_0 : DS := dSeq (dIte (dNot (dTru (frzD (dCallP F_is_observation 1 [] (dCons (dVar 3) (dNil)))))) (dSeq (dNo) (dSkip)) (dSkip)) (dSkip)
def c_validate_observations : DS := dSeq (dExpr (dCallP F_validate_length 1 [] (dCons (dVar 0) (dNil)))) (dSeq (dIte (dOr (dNot (dTru (frzD (dIsaL ["list", "tuple"] (pk 1))))) (aB (dBn oGt (dB1 oLen (pk 1)) (frzD (dC (.int 50)))))) (dSeq (dNo) (dSkip)) (dSkip)) (dSeq (dFor (dRng enmS (dCons (dVar 1) (dNil))) (gTup 2 (gCons (gNm 2) (gCons (gNm 3) (gNil)))) (c_validate_observations_0)) (dSkip)))
def F_validate_observations : Fn := fnOf m_validate_observations 4 c_validate_observations
/-! count_speeds(length, observations, low, high, found, first, step) -/
def m_count_speeds : List Bool := [false, false, false, false]
def c_count_speeds : DS := dSeq (dExpr (dCallP F_validate_observations 2 [] (dCons (dVar 0) (dCons (dVar 1) (dNil))))) (dSeq (dExpr (dCallP F_validate_bounds 2 [] (dCons (dVar 2) (dCons (dVar 3) (dNil))))) (dSeq (dSet 4 (dIx (dCallP F_find_class 2 [] (dCons (dVar 0) (dCons (dVar 1) (dNil)))) (frzD (dC (.int 0))))) (dSeq (dIte (dOr (aB (dBp oIs 4 (frzD (dC .none)))) (aB (dBp oGt 2 (pk 3)))) (dSeq (dRet (dC (.int 0))) (dSkip)) (dSkip)) (dSeq (dAsg (gTup 2 (gCons (gNm 5) (gCons (gNm 6) (gNil)))) (dVar 4)) (dSeq (dRet (dBn oSub (dBn oDiv (dBp oSub 3 (pk 5)) (pk 6)) (frzD (dBn oDiv (dBn oSub (dBp oSub 2 (frzD (dC (.int 1)))) (pk 5)) (pk 6))))) (dSkip))))))
def F_count_speeds : Fn := fnOf m_count_speeds 7 c_count_speeds
/-! common_divisor(first, second) -/
def m_common_divisor : List Bool := [false, false]
/-- first, second = (second, first % second) .. -/
def c_common_divisor_0 : DS := dSeq (dPar2 0 1 (dVar 1) (dBp oMod 0 (pk 1))) (dSkip)
def c_common_divisor : DS := dSeq (dWhile (aB (dBp oNe 1 (frzD (dC (.int 0))))) (c_common_divisor_0)) (dSeq (dRet (dB1 oAbs (pk 0))) (dSkip))
def F_common_divisor : Fn := fnOf m_common_divisor 2 c_common_divisor
/-! next_look(length, observations, low, high, after, count, divisor, time) -/
def m_next_look : List Bool := [false, false, false, false, false]
/-- time += 1 .. -/
def c_next_look_0 : DS := dSeq (dAug 7 (fun a b => a + b) (dC (.int 1))) (dSkip)
def c_next_look : DS := dSeq (dSet 5 (dCallP F_count_speeds 4 [] (dCons (dVar 0) (dCons (dVar 1) (dCons (dVar 2) (dCons (dVar 3) (dNil))))))) (dSeq (dIte (dOr (dNot (dTru (frzD (dCallP F_is_integer 1 [] (dCons (dVar 4) (dNil)))))) (aB (dBp oLt 4 (frzD (dC (.int 0)))))) (dSeq (dNo) (dSkip)) (dSkip)) (dSeq (dSet 6 (dIx (dCallP F_combined_times 2 [] (dCons (dVar 0) (dCons (dVar 1) (dNil)))) (frzD (dC (.int 0))))) (dSeq (dIte (aB (dBp oGt 5 (pk 6))) (dSeq (dRet (dC .none)) (dSkip)) (dSkip)) (dSeq (dSet 7 (dBp oAdd 4 (frzD (dC (.int 1))))) (dSeq (dWhile (aB (dBn oLt (dBp oDiv 6 (frzD (dCallP F_common_divisor 2 [] (dCons (dVar 7) (dCons (dVar 6) (dNil)))))) (pk 5))) (c_next_look_0)) (dSeq (dRetV 7) (dSkip)))))))
def F_next_look : Fn := fnOf m_next_look 8 c_next_look
/-! speeds_between(length, observations, low, high, count, first, step, least, index) -/
def m_speeds_between : List Bool := [false, false, false, false]
def c_speeds_between : DS := dSeq (dSet 4 (dCallP F_count_speeds 4 [] (dCons (dVar 0) (dCons (dVar 1) (dCons (dVar 2) (dCons (dVar 3) (dNil))))))) (dSeq (dIte (aB (dBp oGt 4 (frzD (dC (.int 2000))))) (dSeq (dNo) (dSkip)) (dSkip)) (dSeq (dIte (aB (dBp oEq 4 (frzD (dC (.int 0))))) (dSeq (dRet (dLst (dNil))) (dSkip)) (dSkip)) (dSeq (dAsg (gTup 2 (gCons (gNm 5) (gCons (gNm 6) (gNil)))) (dIx (dCallP F_find_class 2 [] (dCons (dVar 0) (dCons (dVar 1) (dNil)))) (frzD (dC (.int 0))))) (dSeq (dSet 7 (dBp oAdd 2 (frzD (dBn oMod (dBp oSub 5 (pk 2)) (pk 6))))) (dSeq (dRet (dLc (dRng rng1D (dCons (dVar 4) (dNil))) [8] (turnD [8] (gNm 8) (dYes) (dBp oAdd 7 (frzD (dBp oMul 8 (pk 6))))))) (dSkip))))))
def F_speeds_between : Fn := fnOf m_speeds_between 9 c_speeds_between
/-! law(script, pool, turn, size, observations, low, high, known, speed, again, found, time) -/
def m_law : List Bool := [false]
/-- found = speeds_between(size, observations, low, high) .. -/
def c_law_0 : DS := dSeq (dSet 10 (dCallP F_speeds_between 4 [] (dCons (dVar 3) (dCons (dVar 4) (dCons (dVar 5) (dCons (dVar 6) (dNil))))))) (dSeq (dIte (aB (dBp oNe 10 (pk 7))) (dSeq (dRet (dC (.bool false))) (dSkip)) (dSkip)) (dSeq (dExpr (dMut appT 10 (dC .none))) (dSkip)))
/-- size = 1 + _law_draw(pool, 36) .. -/
def c_law_1 : DS := dSeq (dSet 3 (dBn oAdd (dC (.int 1)) (frzD (dCallO m__law_draw F__law_draw [] (rO 1 (rD (dC (.int 36)) (rNil))))))) (dSeq (dSet 4 (dCallO m__law_observations F__law_observations [] (rO 1 (rD (dVar 3) (rD (dBn oSub (dCallO m__law_draw F__law_draw [] (rO 1 (rD (dC (.int 60)) (rNil)))) (frzD (dC (.int 30)))) (rNil)))))) (dSeq (dPar2 5 6 (dBn oSub (dCallO m__law_draw F__law_draw [] (rO 1 (rD (dC (.int 60)) (rNil)))) (frzD (dC (.int 40)))) (dBn oSub (dCallO m__law_draw F__law_draw [] (rO 1 (rD (dC (.int 80)) (rNil)))) (frzD (dC (.int 40))))) (dSeq (dSet 7 (dLc (dRng rng2D (dCons (dVar 5) (dCons (dBp oAdd 6 (frzD (dC (.int 1)))) (dNil)))) [8] (turnD [8] (gNm 8) (dTru (frzD (dCallP F__law_fits 3 [] (dCons (dVar 3) (dCons (dVar 4) (dCons (dVar 8) (dNil))))))) (dVar 8)))) (dSeq (dIte (aB (dBn oNe (dCallP F_count_speeds 4 [] (dCons (dVar 3) (dCons (dVar 4) (dCons (dVar 5) (dCons (dVar 6) (dNil)))))) (frzD (dB1 oLen (pk 7))))) (dSeq (dRet (dC (.bool false))) (dSkip)) (dSkip)) (dSeq (dFor (dRng rng1D (dCons (dC (.int 2)) (dNil))) (gNm 9) (c_law_0)) (dSeq (dSet 11 (dCallO m__law_draw F__law_draw [] (rO 1 (rD (dC (.int 50)) (rNil))))) (dSeq (dIte (aB (dBn oNe (dCallK F_next_look 5 (dCons (dVar 3) (dCons (dVar 4) (dCons (dVar 5) (dCons (dVar 6) (dNil))))) (dVar 11)) (frzD (dCallP F__law_look 3 [] (dCons (dVar 3) (dCons (dVar 7) (dCons (dVar 11) (dNil)))))))) (dSeq (dRet (dC (.bool false))) (dSkip)) (dSkip)) (dSeq (dIte (aB (dBn oNe (dCallP F_next_look 5 [V.int 0] (dCons (dVar 3) (dCons (dVar 4) (dCons (dVar 5) (dCons (dVar 6) (dNil)))))) (frzD (dCallP F__law_look 3 [] (dCons (dVar 3) (dCons (dVar 7) (dCons (dC (.int 0)) (dNil)))))))) (dSeq (dRet (dC (.bool false))) (dSkip)) (dSkip)) (dSkip)))))))))
def c_law : DS := dSeq (dSet 1 (dCallP F__law_pool 1 [] (dCons (dVar 0) (dNil)))) (dSeq (dFor (dRng rng1D (dCons (dC (.int 6)) (dNil))) (gNm 2) (c_law_1)) (dSeq (dRet (dC (.bool true))) (dSkip)))
def F_law : Fn := fnOf m_law 12 c_law
end Cd
end

namespace Wk
open PySem PySem.Spec PyProof.Rows L2 Dn Cd
section
variable {P : Program} {w : World} {K : PySem.W.Frag} {mg : Str → Option Value} {base h : Heap}
abbrev N__law_draw : List Str := ["pool", "many", "found", "cells", "cell", "mixed"]
theorem nd__law_draw : (N__law_draw).Nodup := by decide
theorem sc__law_draw : FnScope N__law_draw ["pool", "many"] (defScope Hd.s__law_draw) := ⟨rfl, rfl, rfl, by decide +kernel, rfl, by decide +kernel, by decide +kernel⟩
theorem n__law_draw_pool : Nm N__law_draw (defScope Hd.s__law_draw) 0 "pool" := ⟨rfl, by decide +kernel, by decide +kernel, by decide +kernel⟩
theorem n__law_draw_many : Nm N__law_draw (defScope Hd.s__law_draw) 1 "many" := ⟨rfl, by decide +kernel, by decide +kernel, by decide +kernel⟩
theorem n__law_draw_found : Nm N__law_draw (defScope Hd.s__law_draw) 2 "found" := ⟨rfl, by decide +kernel, by decide +kernel, by decide +kernel⟩
theorem l__law_draw_found : Lc N__law_draw (defScope Hd.s__law_draw) 2 "found" := ⟨rfl, by decide +kernel⟩
theorem n__law_draw_cells : Nm N__law_draw (defScope Hd.s__law_draw) 3 "cells" := ⟨rfl, by decide +kernel, by decide +kernel, by decide +kernel⟩
theorem l__law_draw_cells : Lc N__law_draw (defScope Hd.s__law_draw) 3 "cells" := ⟨rfl, by decide +kernel⟩
theorem n__law_draw_cell : Nm N__law_draw (defScope Hd.s__law_draw) 4 "cell" := ⟨rfl, by decide +kernel, by decide +kernel, by decide +kernel⟩
theorem l__law_draw_cell : Lc N__law_draw (defScope Hd.s__law_draw) 4 "cell" := ⟨rfl, by decide +kernel⟩
theorem n__law_draw_mixed : Nm N__law_draw (defScope Hd.s__law_draw) 5 "mixed" := ⟨rfl, by decide +kernel, by decide +kernel, by decide +kernel⟩
theorem l__law_draw_mixed : Lc N__law_draw (defScope Hd.s__law_draw) 5 "mixed" := ⟨rfl, by decide +kernel⟩
theorem b__law_draw (T : Hd.TT K mg h) : BodyD P w K mg base N__law_draw "_law_draw" (defScope Hd.s__law_draw) (defBody Hd.s__law_draw) (He.ga K "_law_draw") 0 Cd.c__law_draw := fun cdv A outer s H E hr hgd tk po =>
  have hu := Room.units hr
  SB.cons (SS.itemQ hu (fun _ => rfl) rfl rfl rfl (SE.bn ov_add (SE.ixpN hu (fun _ _ => rfl) n__law_draw_pool (SE.v (SE.int))) (SE.v (SE.int))) (SPl.nameN n__law_draw_pool) (SQ.int)) (SB.cons (SS.ite (ST.cmpn ov_gt rfl (SE.ixpN hu (fun _ _ => rfl) n__law_draw_pool (SE.v (SE.int))) (SE.v (SE.int))) (SB.cons (SS.setN nd__law_draw l__law_draw_found rfl rfl (SE.bn ov_mod (SE.ixpN hu (fun _ _ => rfl) n__law_draw_pool (SE.v (SE.int))) (SV.pkN n__law_draw_many))) (SB.cons (SS.itemQ hu (fun _ => rfl) rfl rfl rfl (SE.bn ov_div (SE.ixpN hu (fun _ _ => rfl) n__law_draw_pool (SE.v (SE.int))) (SV.pkN n__law_draw_many)) (SPl.nameN n__law_draw_pool) (SQ.int)) (SB.cons (SS.retNN n__law_draw_found) (SB.nil)))) (SB.nil)) (SB.cons (SS.setN nd__law_draw l__law_draw_cells rfl rfl (SE.bn ov_add (SE.ixpN hu (fun _ _ => rfl) n__law_draw_pool (SE.v (SE.int))) (SE.v (SE.bn ov_mul (SE.lst (SA.cons (sp rfl) (SE.int) (SA.nil))) (SE.v (SE.callT1 cv_int (Hd.b_int T) (by decide +kernel) rfl (by decide) rfl (sp rfl) (bt rfl) (SE.v (SE.cmpn (ov_eq hu) rfl (SE.ixpN hu (fun _ _ => rfl) n__law_draw_pool (SE.v (SE.int))) (SE.v (SE.lst (SA.nil))))))))))) (SB.cons (SS.setN nd__law_draw l__law_draw_cell rfl rfl (SE.ixpN hu (fun _ _ => rfl) n__law_draw_cells (SE.v (SE.bn ov_mod (SE.ixpN hu (fun _ _ => rfl) n__law_draw_pool (SE.v (SE.int))) (SE.v (SE.callB1 cv_len (Hd.b_len T) (by decide +kernel) rfl (by decide) rfl (sp rfl) (bt rfl) (SV.pkN n__law_draw_cells))))))) (SB.cons (SS.itemQ hu (fun _ => rfl) rfl rfl rfl (SE.bn ov_add (SE.ixpN hu (fun _ _ => rfl) n__law_draw_pool (SE.v (SE.int))) (SE.v (SE.int))) (SPl.nameN n__law_draw_pool) (SQ.int)) (SB.cons (SS.ite (ST.cmppN ov_ge rfl n__law_draw_cell (SE.v (SE.bn ov_pow (SE.int) (SE.v (SE.int))))) (SB.cons (SS.itemQ hu (fun _ => rfl) rfl rfl rfl (SE.bpN ov_div n__law_draw_cell (SV.pkN n__law_draw_many)) (SPl.nameN n__law_draw_pool) (SQ.int)) (SB.cons (SS.ret (SE.bpN ov_mod n__law_draw_cell (SV.pkN n__law_draw_many))) (SB.nil))) (SB.nil)) (SB.cons (SS.setN nd__law_draw l__law_draw_mixed rfl rfl (SE.bn ov_mod (SE.bpN ov_add n__law_draw_cell (SE.v (SE.bn ov_mul (SE.int) (SE.v (SE.ixpN hu (fun _ _ => rfl) n__law_draw_pool (SE.v (SE.int))))))) (SE.v (SE.int)))) (SB.cons (SS.ret (SE.bn ov_mod (SE.bn ov_div (SE.bn ov_mod (SE.bn ov_mul (SE.bpN ov_pow n__law_draw_mixed (SE.v (SE.int))) (SE.v (SE.int))) (SE.v (SE.int))) (SE.v (SE.int))) (SV.pkN n__law_draw_many))) (SB.nil))))))))
theorem D__law_draw (T : Hd.TT K mg h) : Def1 P w K mg base "_law_draw" 1 ["pool", "many"] [] (spF K Cd.m__law_draw Cd.F__law_draw) :=
  def1 T.tb (Hd.g__law_draw T) 14 rfl rfl rfl rfl (fun _ _ _ _ _ _ us hl => match us, hl with | [_, _], _ => rfl) fun fd F => fn_ok F sc__law_draw rfl (by decide) (b__law_draw T)
abbrev N__law_fits : List Str := ["size", "observations", "speed", "time", "place"]
theorem nd__law_fits : (N__law_fits).Nodup := by decide
theorem sc__law_fits : FnScope N__law_fits ["size", "observations", "speed"] (defScope Hd.s__law_fits) := ⟨rfl, rfl, rfl, by decide +kernel, rfl, by decide +kernel, by decide +kernel⟩
theorem n__law_fits_observations : Nm N__law_fits (defScope Hd.s__law_fits) 1 "observations" := ⟨rfl, by decide +kernel, by decide +kernel, by decide +kernel⟩
theorem b__law_fits (T : Hd.TT K mg h) : BodyD P w K mg base N__law_fits "_law_fits" (defScope Hd.s__law_fits) (defBody Hd.s__law_fits) (He.ga K "_law_fits") 0 Cd.c__law_fits := fun cdv A outer s H E hr hgd tk po =>
  have hu := Room.units hr
  SB.cons (SS.ret (SE.cmpn (ov_eq hu) rfl (SE.lc (own := [("time", 3), ("place", 4)]) rfl nd__law_fits (show BlkOk N__law_fits (defScope Hd.s__law_fits) _ _ from ⟨rfl, by decide +kernel, by decide +kernel, by decide +kernel, by decide +kernel⟩) (by decide) (fun _ => rfl) (SI.data (SE.varN n__law_fits_observations)) (fun _ _ _ _ _ => SGw.tup rfl rfl rfl (SGsw.cons (ap rfl) (SGw.nameN nd__law_fits ⟨rfl, rfl⟩ rfl (by decide)) (SGsw.cons (ap rfl) (SGw.nameN nd__law_fits ⟨rfl, rfl⟩ rfl (by decide)) (SGsw.nil)))) (fun _ _ _ _ _ => STs.one (ST.cmpn (ov_ne hu) rfl (SE.bn ov_mod (SE.bn ov_sub (SE.bpN ov_mul ⟨rfl, rfl, rfl, rfl⟩ (SV.pkN ⟨rfl, rfl, rfl, rfl⟩)) (SV.pkN ⟨rfl, rfl, rfl, rfl⟩)) (SV.pkN ⟨rfl, rfl, rfl, rfl⟩)) (SE.v (SE.int)))) (fun _ _ _ _ _ => SE.varN ⟨rfl, rfl, rfl, rfl⟩)) (SE.v (SE.lst (SA.nil))))) (SB.nil)
theorem D__law_fits (T : Hd.TT K mg h) : Def1 P w K mg base "_law_fits" 1 ["size", "observations", "speed"] [] (spF K Cd.m__law_fits Cd.F__law_fits) :=
  def1 T.tb (Hd.g__law_fits T) 16 rfl rfl rfl rfl (fun _ _ _ _ _ _ us hl => match us, hl with | [_, _, _], _ => rfl) fun fd F => fn_ok F sc__law_fits rfl (by decide) (b__law_fits T)
abbrev N__law_look : List Str := ["size", "known", "time", "step", "places", "speed"]
theorem nd__law_look : (N__law_look).Nodup := by decide
theorem sc__law_look : FnScope N__law_look ["size", "known", "time"] (defScope Hd.s__law_look) := ⟨rfl, rfl, rfl, by decide +kernel, rfl, by decide +kernel, by decide +kernel⟩
theorem n__law_look_size : Nm N__law_look (defScope Hd.s__law_look) 0 "size" := ⟨rfl, by decide +kernel, by decide +kernel, by decide +kernel⟩
theorem n__law_look_known : Nm N__law_look (defScope Hd.s__law_look) 1 "known" := ⟨rfl, by decide +kernel, by decide +kernel, by decide +kernel⟩
theorem n__law_look_time : Nm N__law_look (defScope Hd.s__law_look) 2 "time" := ⟨rfl, by decide +kernel, by decide +kernel, by decide +kernel⟩
theorem n__law_look_step : Nm N__law_look (defScope Hd.s__law_look) 3 "step" := ⟨rfl, by decide +kernel, by decide +kernel, by decide +kernel⟩
theorem l__law_look_step : Lc N__law_look (defScope Hd.s__law_look) 3 "step" := ⟨rfl, by decide +kernel⟩
theorem n__law_look_places : Nm N__law_look (defScope Hd.s__law_look) 4 "places" := ⟨rfl, by decide +kernel, by decide +kernel, by decide +kernel⟩
theorem l__law_look_places : Lc N__law_look (defScope Hd.s__law_look) 4 "places" := ⟨rfl, by decide +kernel⟩
theorem b__law_look_0 (T : Hd.TT K mg h) : BodyD P w K mg base N__law_look "_law_look" (defScope Hd.s__law_look) (foB (atB (defBody Hd.s__law_look) 0)) (He.ga K "_law_look") 0 Cd.c__law_look_0 := fun cdv A outer s H E hr hgd tk po =>
  have hu := Room.units hr
  SB.cons (SS.setLc (own := [("speed", 5)]) rfl nd__law_look rfl rfl (sw_true rfl rfl rfl rfl) (show BlkOk N__law_look (defScope Hd.s__law_look) _ _ from ⟨rfl, by decide +kernel, by decide +kernel, by decide +kernel, by decide +kernel⟩) (by decide) (fun _ => rfl) (SI.data (SE.varN n__law_look_known)) (fun _ _ _ _ _ => SGw.nameN nd__law_look ⟨rfl, rfl⟩ rfl (by decide)) (fun _ _ _ _ _ => STs.nil) (fun _ _ _ _ _ => SE.bn ov_mod (SE.bpN ov_mul ⟨rfl, rfl, rfl, rfl⟩ (SV.pkN ⟨rfl, rfl, rfl, rfl⟩)) (SV.pkN ⟨rfl, rfl, rfl, rfl⟩))) (SB.cons (SS.ite (ST.cmpn (ov_eq hu) rfl (SE.callB1 cv_len (Hd.b_len T) (by decide +kernel) rfl (by decide) rfl (sp rfl) (bt rfl) (SE.v (SE.sortSet (Hd.b_sorted T) rfl (Hd.b_set T) rfl rfl (sp rfl) (bt rfl) (sp rfl) (bt rfl) (SE.varN n__law_look_places)))) (SE.v (SE.callB1 cv_len (Hd.b_len T) (by decide +kernel) rfl (by decide) rfl (sp rfl) (bt rfl) (SV.pkN n__law_look_places)))) (SB.cons (SS.retNN n__law_look_step) (SB.nil)) (SB.nil)) (SB.nil))
theorem b__law_look (T : Hd.TT K mg h) : BodyD P w K mg base N__law_look "_law_look" (defScope Hd.s__law_look) (defBody Hd.s__law_look) (He.ga K "_law_look") 0 Cd.c__law_look := fun cdv A outer s H E hr hgd tk po =>
  have hu := Room.units hr
  SB.cons (SS.for po rfl (fun _ => rfl) (SI.rng2 rfl (Hd.b_range T) ((sp rfl).trans (congrArg _ (sp rfl))) (sp rfl) (SA.cons (sp rfl) (SE.bpN ov_add n__law_look_time (SE.v (SE.int))) (SA.cons (sp rfl) (SE.bn ov_add (SE.bpN ov_add n__law_look_time (SE.v (SE.int))) (SV.pkN n__law_look_size)) (SA.nil)))) (SG.nameN nd__law_look l__law_look_step rfl) ((b__law_look_0 T cdv A outer s H E hr hgd tk po))) (SB.cons (SS.ret (SE.non)) (SB.nil))
theorem D__law_look (T : Hd.TT K mg h) : Def1 P w K mg base "_law_look" 1 ["size", "known", "time"] [] (spF K Cd.m__law_look Cd.F__law_look) :=
  def1 T.tb (Hd.g__law_look T) 17 rfl rfl rfl rfl (fun _ _ _ _ _ _ us hl => match us, hl with | [_, _, _], _ => rfl) fun fd F => fn_ok F sc__law_look rfl (by decide) (b__law_look T)
abbrev N__law_observations : List Str := ["pool", "size", "speed", "found", "turn", "time", "place"]
theorem nd__law_observations : (N__law_observations).Nodup := by decide
theorem sc__law_observations : FnScope N__law_observations ["pool", "size", "speed"] (defScope Hd.s__law_observations) := ⟨rfl, rfl, rfl, by decide +kernel, rfl, by decide +kernel, by decide +kernel⟩
theorem n__law_observations_pool : Nm N__law_observations (defScope Hd.s__law_observations) 0 "pool" := ⟨rfl, by decide +kernel, by decide +kernel, by decide +kernel⟩
theorem n__law_observations_size : Nm N__law_observations (defScope Hd.s__law_observations) 1 "size" := ⟨rfl, by decide +kernel, by decide +kernel, by decide +kernel⟩
theorem n__law_observations_speed : Nm N__law_observations (defScope Hd.s__law_observations) 2 "speed" := ⟨rfl, by decide +kernel, by decide +kernel, by decide +kernel⟩
theorem n__law_observations_found : Nm N__law_observations (defScope Hd.s__law_observations) 3 "found" := ⟨rfl, by decide +kernel, by decide +kernel, by decide +kernel⟩
theorem l__law_observations_found : Lc N__law_observations (defScope Hd.s__law_observations) 3 "found" := ⟨rfl, by decide +kernel⟩
theorem l__law_observations_turn : Lc N__law_observations (defScope Hd.s__law_observations) 4 "turn" := ⟨rfl, by decide +kernel⟩
theorem n__law_observations_time : Nm N__law_observations (defScope Hd.s__law_observations) 5 "time" := ⟨rfl, by decide +kernel, by decide +kernel, by decide +kernel⟩
theorem l__law_observations_time : Lc N__law_observations (defScope Hd.s__law_observations) 5 "time" := ⟨rfl, by decide +kernel⟩
theorem n__law_observations_place : Nm N__law_observations (defScope Hd.s__law_observations) 6 "place" := ⟨rfl, by decide +kernel, by decide +kernel, by decide +kernel⟩
theorem l__law_observations_place : Lc N__law_observations (defScope Hd.s__law_observations) 6 "place" := ⟨rfl, by decide +kernel⟩
theorem b__law_observations_0 (T : Hd.TT K mg h) : BodyD P w K mg base N__law_observations "_law_observations" (defScope Hd.s__law_observations) (foB (atB (defBody Hd.s__law_observations) 1)) (He.ga K "_law_observations") 2 Cd.c__law_observations_0 := fun cdv A outer s H E hr hgd tk po =>
  have hu := Room.units hr
  SB.cons (SS.setN nd__law_observations l__law_observations_time rfl rfl (SE.callO tk (hr.mono (j := 1) (by decide)) hgd (D__law_draw T) rfl rfl (sp rfl) (bt rfl) (SR.oN (sp rfl) n__law_observations_pool (SR.dd (sp rfl) (SE.int) (SR.nil))))) (SB.cons (SS.setN nd__law_observations l__law_observations_place rfl rfl (SE.bn ov_add (SE.bpN ov_mul n__law_observations_time (SV.pkN n__law_observations_speed)) (SE.v (SE.bpN ov_mul n__law_observations_size (SE.v (SE.bn ov_sub (SE.callO tk (hr.mono (j := 1) (by decide)) hgd (D__law_draw T) rfl rfl (sp rfl) (bt rfl) (SR.oN (sp rfl) n__law_observations_pool (SR.dd (sp rfl) (SE.int) (SR.nil)))) (SE.v (SE.int)))))))) (SB.cons (SS.expr rfl (SE.append rfl rfl rfl (sp rfl) (bt rfl) (SPl.nameN n__law_observations_found) (SE.tup (SA.cons (sp rfl) (SE.varN n__law_observations_time) (SA.cons (sp rfl) (SE.bpN ov_add n__law_observations_place (SE.v (SE.callT1 cv_int (Hd.b_int T) (by decide +kernel) rfl (by decide) rfl (sp rfl) (bt rfl) (SE.v (SE.cmpn (ov_eq hu) rfl (SE.callO tk (hr.mono (j := 1) (by decide)) hgd (D__law_draw T) rfl rfl (sp rfl) (bt rfl) (SR.oN (sp rfl) n__law_observations_pool (SR.dd (sp rfl) (SE.int) (SR.nil)))) (SE.v (SE.int))))))) (SA.nil)))))) (SB.nil)))
theorem b__law_observations (T : Hd.TT K mg h) : BodyD P w K mg base N__law_observations "_law_observations" (defScope Hd.s__law_observations) (defBody Hd.s__law_observations) (He.ga K "_law_observations") 2 Cd.c__law_observations := fun cdv A outer s H E hr hgd tk po =>
  have hu := Room.units hr
  SB.cons (SS.setN nd__law_observations l__law_observations_found rfl rfl (SE.lst (SA.nil))) (SB.cons (SS.for po rfl (fun _ => rfl) (SI.rng1 rfl (Hd.b_range T) (sp rfl) (SA.cons (sp rfl) (SE.callO tk (hr.mono (j := 1) (by decide)) hgd (D__law_draw T) rfl rfl (sp rfl) (bt rfl) (SR.oN (sp rfl) n__law_observations_pool (SR.dd (sp rfl) (SE.int) (SR.nil)))) (SA.nil))) (SG.nameN nd__law_observations l__law_observations_turn rfl) ((b__law_observations_0 T cdv A outer s H E hr hgd tk po))) (SB.cons (SS.ret (SE.ix hu (fun _ _ => rfl) (SE.lst (SA.cons (sp rfl) (SE.varN n__law_observations_found) (SA.cons (sp rfl) (SE.callT1 cv_tuple (Hd.b_tuple T) (by decide +kernel) rfl (by decide) rfl (sp rfl) (bt rfl) (SV.pkN n__law_observations_found)) (SA.nil)))) (SE.v (SE.callO tk (hr.mono (j := 1) (by decide)) hgd (D__law_draw T) rfl rfl (sp rfl) (bt rfl) (SR.oN (sp rfl) n__law_observations_pool (SR.dd (sp rfl) (SE.int) (SR.nil))))))) (SB.nil)))
theorem D__law_observations (T : Hd.TT K mg h) : Def1 P w K mg base "_law_observations" 3 ["pool", "size", "speed"] [] (spF K Cd.m__law_observations Cd.F__law_observations) :=
  def1 T.tb (Hd.g__law_observations T) 15 rfl rfl rfl rfl (fun _ _ _ _ _ _ us hl => match us, hl with | [_, _, _], _ => rfl) fun fd F => fn_ok F sc__law_observations rfl (by decide) (b__law_observations T)
abbrev N__law_pool : List Str := ["script"]
theorem nd__law_pool : (N__law_pool).Nodup := by decide
theorem sc__law_pool : FnScope N__law_pool ["script"] (defScope Hd.s__law_pool) := ⟨rfl, rfl, rfl, by decide +kernel, rfl, by decide +kernel, by decide +kernel⟩
theorem n__law_pool_script : Nm N__law_pool (defScope Hd.s__law_pool) 0 "script" := ⟨rfl, by decide +kernel, by decide +kernel, by decide +kernel⟩
theorem b__law_pool (T : Hd.TT K mg h) : BodyD P w K mg base N__law_pool "_law_pool" (defScope Hd.s__law_pool) (defBody Hd.s__law_pool) (He.ga K "_law_pool") 0 Cd.c__law_pool := fun cdv A outer s H E hr hgd tk po =>
  have hu := Room.units hr
  SB.cons (SS.ret (SE.lst (SA.cons (sp rfl) (SE.slice (SE.varN n__law_pool_script) (SO.none) (SO.some (SE.int))) (SA.cons (sp rfl) (SE.int) (SA.cons (sp rfl) (SE.int) (SA.cons (sp rfl) (SE.int) (SA.nil))))))) (SB.nil)
theorem D__law_pool (T : Hd.TT K mg h) : Def1 P w K mg base "_law_pool" 1 ["script"] [] (spF K Cd.m__law_pool Cd.F__law_pool) :=
  def1 T.tb (Hd.g__law_pool T) 13 rfl rfl rfl rfl (fun _ _ _ _ _ _ us hl => match us, hl with | [_], _ => rfl) fun fd F => fn_ok F sc__law_pool rfl (by decide) (b__law_pool T)
abbrev N_extended_divisor : List Str := ["first", "second", "old", "new", "factor", "before", "after", "number"]
theorem nd_extended_divisor : (N_extended_divisor).Nodup := by decide
theorem sc_extended_divisor : FnScope N_extended_divisor ["first", "second"] (defScope Hd.s_extended_divisor) := ⟨rfl, rfl, rfl, by decide +kernel, rfl, by decide +kernel, by decide +kernel⟩
theorem n_extended_divisor_first : Nm N_extended_divisor (defScope Hd.s_extended_divisor) 0 "first" := ⟨rfl, by decide +kernel, by decide +kernel, by decide +kernel⟩
theorem n_extended_divisor_second : Nm N_extended_divisor (defScope Hd.s_extended_divisor) 1 "second" := ⟨rfl, by decide +kernel, by decide +kernel, by decide +kernel⟩
theorem n_extended_divisor_old : Nm N_extended_divisor (defScope Hd.s_extended_divisor) 2 "old" := ⟨rfl, by decide +kernel, by decide +kernel, by decide +kernel⟩
theorem n_extended_divisor_new : Nm N_extended_divisor (defScope Hd.s_extended_divisor) 3 "new" := ⟨rfl, by decide +kernel, by decide +kernel, by decide +kernel⟩
theorem l_extended_divisor_factor : Lc N_extended_divisor (defScope Hd.s_extended_divisor) 4 "factor" := ⟨rfl, by decide +kernel⟩
theorem b_extended_divisor_0 (T : Hd.TT K mg h) : BodyD P w K mg base N_extended_divisor "extended_divisor" (defScope Hd.s_extended_divisor) (whB (atB (defBody Hd.s_extended_divisor) 1)) (He.ga K "extended_divisor") 0 Cd.c_extended_divisor_0 := fun cdv A outer s H E hr hgd tk po =>
  have hu := Room.units hr
  SB.cons (SS.setN nd_extended_divisor l_extended_divisor_factor rfl rfl (SE.bn ov_div (SE.ixpN hu (fun _ _ => rfl) n_extended_divisor_old (SE.v (SE.int))) (SE.v (SE.ixpN hu (fun _ _ => rfl) n_extended_divisor_new (SE.v (SE.int)))))) (SB.cons (SS.par2 rfl nd_extended_divisor rfl rfl (by decide) rfl rfl rfl rfl (sp rfl) (sp rfl) (SE.varN n_extended_divisor_new) (SE.callT1 cv_tuple (Hd.b_tuple T) (by decide +kernel) rfl (by decide) rfl (sp rfl) (bt rfl) (SE.v (SE.lc (own := [("before", 5), ("after", 6)]) rfl nd_extended_divisor (show BlkOk N_extended_divisor (defScope Hd.s_extended_divisor) _ _ from ⟨rfl, by decide +kernel, by decide +kernel, by decide +kernel, by decide +kernel⟩) (by decide) (fun _ => rfl) (SI.zipK rfl (Hd.b_zip T) (bs2 rfl) (bs3 rfl) (SA.cons (sp rfl) (SE.varN n_extended_divisor_old) (SA.cons (sp rfl) (SE.varN n_extended_divisor_new) (SA.nil)))) (fun _ _ _ _ _ => SGw.tup rfl rfl rfl (SGsw.cons (ap rfl) (SGw.nameN nd_extended_divisor ⟨rfl, rfl⟩ rfl (by decide)) (SGsw.cons (ap rfl) (SGw.nameN nd_extended_divisor ⟨rfl, rfl⟩ rfl (by decide)) (SGsw.nil)))) (fun _ _ _ _ _ => STs.nil) (fun _ _ _ _ _ => SE.bpN ov_sub ⟨rfl, rfl, rfl, rfl⟩ (SE.v (SE.bpN ov_mul ⟨rfl, rfl, rfl, rfl⟩ (SV.pkN ⟨rfl, rfl, rfl, rfl⟩)))))))) (SB.nil))
theorem b_extended_divisor (T : Hd.TT K mg h) : BodyD P w K mg base N_extended_divisor "extended_divisor" (defScope Hd.s_extended_divisor) (defBody Hd.s_extended_divisor) (He.ga K "extended_divisor") 0 Cd.c_extended_divisor := fun cdv A outer s H E hr hgd tk po =>
  have hu := Room.units hr
  SB.cons (SS.par2 rfl nd_extended_divisor rfl rfl (by decide) rfl rfl rfl rfl (sp rfl) (sp rfl) (SE.tup (SA.cons (sp rfl) (SE.varN n_extended_divisor_first) (SA.cons (sp rfl) (SE.int) (SA.cons (sp rfl) (SE.int) (SA.nil))))) (SE.tup (SA.cons (sp rfl) (SE.varN n_extended_divisor_second) (SA.cons (sp rfl) (SE.int) (SA.cons (sp rfl) (SE.int) (SA.nil)))))) (SB.cons (SS.while po (ST.cmpn (ov_ne hu) rfl (SE.ixpN hu (fun _ _ => rfl) n_extended_divisor_new (SE.v (SE.int))) (SE.v (SE.int))) ((b_extended_divisor_0 T cdv A outer s H E hr hgd tk po))) (SB.cons (SS.ret (SE.ife (ST.cmpn ov_ge rfl (SE.ixpN hu (fun _ _ => rfl) n_extended_divisor_old (SE.v (SE.int))) (SE.v (SE.int))) (SE.varN n_extended_divisor_old) (SE.callT1 cv_tuple (Hd.b_tuple T) (by decide +kernel) rfl (by decide) rfl (sp rfl) (bt rfl) (SE.v (SE.lc (own := [("number", 7)]) rfl nd_extended_divisor (show BlkOk N_extended_divisor (defScope Hd.s_extended_divisor) _ _ from ⟨rfl, by decide +kernel, by decide +kernel, by decide +kernel, by decide +kernel⟩) (by decide) (fun _ => rfl) (SI.data (SE.varN n_extended_divisor_old)) (fun _ _ _ _ _ => SGw.nameN nd_extended_divisor ⟨rfl, rfl⟩ rfl (by decide)) (fun _ _ _ _ _ => STs.nil) (fun _ _ _ _ _ => SE.un uv_neg (SV.pkN ⟨rfl, rfl, rfl, rfl⟩))))))) (SB.nil)))
theorem D_extended_divisor (T : Hd.TT K mg h) : Def1 P w K mg base "extended_divisor" 1 ["first", "second"] [] (spF K Cd.m_extended_divisor Cd.F_extended_divisor) :=
  def1 T.tb (Hd.g_extended_divisor T) 2 rfl rfl rfl rfl (fun _ _ _ _ _ _ us hl => match us, hl with | [_, _], _ => rfl) fun fd F => fn_ok F sc_extended_divisor rfl (by decide) (b_extended_divisor T)
end
end Wk

namespace Wk
open PySem PySem.Spec PyProof.Rows L2 Dn Cd
section
variable {P : Program} {w : World} {K : PySem.W.Frag} {mg : Str → Option Value} {base h : Heap}
abbrev N_combined : List Str := ["numbers", "divisor", "factors", "number", "old_factor", "factor", "other"]
theorem nd_combined : (N_combined).Nodup := by decide
theorem sc_combined : FnScope N_combined ["numbers"] (defScope Hd.s_combined) := ⟨rfl, rfl, rfl, by decide +kernel, rfl, by decide +kernel, by decide +kernel⟩
theorem n_combined_numbers : Nm N_combined (defScope Hd.s_combined) 0 "numbers" := ⟨rfl, by decide +kernel, by decide +kernel, by decide +kernel⟩
theorem n_combined_divisor : Nm N_combined (defScope Hd.s_combined) 1 "divisor" := ⟨rfl, by decide +kernel, by decide +kernel, by decide +kernel⟩
theorem l_combined_divisor : Lc N_combined (defScope Hd.s_combined) 1 "divisor" := ⟨rfl, by decide +kernel⟩
theorem n_combined_factors : Nm N_combined (defScope Hd.s_combined) 2 "factors" := ⟨rfl, by decide +kernel, by decide +kernel, by decide +kernel⟩
theorem l_combined_factors : Lc N_combined (defScope Hd.s_combined) 2 "factors" := ⟨rfl, by decide +kernel⟩
theorem n_combined_number : Nm N_combined (defScope Hd.s_combined) 3 "number" := ⟨rfl, by decide +kernel, by decide +kernel, by decide +kernel⟩
theorem l_combined_number : Lc N_combined (defScope Hd.s_combined) 3 "number" := ⟨rfl, by decide +kernel⟩
theorem l_combined_old_factor : Lc N_combined (defScope Hd.s_combined) 4 "old_factor" := ⟨rfl, by decide +kernel⟩
theorem n_combined_factor : Nm N_combined (defScope Hd.s_combined) 5 "factor" := ⟨rfl, by decide +kernel, by decide +kernel, by decide +kernel⟩
theorem l_combined_factor : Lc N_combined (defScope Hd.s_combined) 5 "factor" := ⟨rfl, by decide +kernel⟩
theorem b_combined_0 (T : Hd.TT K mg h) : BodyD P w K mg base N_combined "combined" (defScope Hd.s_combined) (foB (atB (defBody Hd.s_combined) 1)) (He.ga K "combined") 2 Cd.c_combined_0 := fun cdv A outer s H E hr hgd tk po =>
  have hu := Room.units hr
  SB.cons (SS.asg rfl rfl rfl (SG.tup rfl rfl rfl (SGs.cons (ap rfl) (SG.nameN nd_combined l_combined_divisor rfl) (SGs.cons (ap rfl) (SG.nameN nd_combined l_combined_old_factor rfl) (SGs.cons (ap rfl) (SG.nameN nd_combined l_combined_factor rfl) (SGs.nil))))) (Dn.SE.callP tk (hr.mono (j := 1) (by decide)) hgd (D_extended_divisor T) rfl rfl (sp rfl) (bt rfl) (SA.cons (sp rfl) (SE.varN n_combined_divisor) (SA.cons (sp rfl) (SE.varN n_combined_number) (SA.nil))))) (SB.cons (SS.setN nd_combined l_combined_factors rfl rfl (SE.bn ov_add (SE.lc (own := [("other", 6)]) rfl nd_combined (show BlkOk N_combined (defScope Hd.s_combined) _ _ from ⟨rfl, by decide +kernel, by decide +kernel, by decide +kernel, by decide +kernel⟩) (by decide) (fun _ => rfl) (SI.data (SE.varN n_combined_factors)) (fun _ _ _ _ _ => SGw.nameN nd_combined ⟨rfl, rfl⟩ rfl (by decide)) (fun _ _ _ _ _ => STs.nil) (fun _ _ _ _ _ => SE.bpN ov_mul ⟨rfl, rfl, rfl, rfl⟩ (SV.pkN ⟨rfl, rfl, rfl, rfl⟩))) (SE.v (SE.lst (SA.cons (sp rfl) (SE.varN n_combined_factor) (SA.nil)))))) (SB.nil))
theorem b_combined (T : Hd.TT K mg h) : BodyD P w K mg base N_combined "combined" (defScope Hd.s_combined) (defBody Hd.s_combined) (He.ga K "combined") 2 Cd.c_combined := fun cdv A outer s H E hr hgd tk po =>
  have hu := Room.units hr
  SB.cons (SS.par2 rfl nd_combined rfl rfl (by decide) rfl rfl rfl rfl (sp rfl) (sp rfl) (SE.int) (SE.lst (SA.nil))) (SB.cons (SS.for po rfl (fun _ => rfl) (SI.data (SE.varN n_combined_numbers)) (SG.nameN nd_combined l_combined_number rfl) ((b_combined_0 T cdv A outer s H E hr hgd tk po))) (SB.cons (SS.ret (SE.tup (SA.cons (sp rfl) (SE.varN n_combined_divisor) (SA.cons (sp rfl) (SE.varN n_combined_factors) (SA.nil))))) (SB.nil)))
theorem D_combined (T : Hd.TT K mg h) : Def1 P w K mg base "combined" 3 ["numbers"] [] (spF K Cd.m_combined Cd.F_combined) :=
  def1 T.tb (Hd.g_combined T) 3 rfl rfl rfl rfl (fun _ _ _ _ _ _ us hl => match us, hl with | [_], _ => rfl) fun fd F => fn_ok F sc_combined rfl (by decide) (b_combined T)
abbrev N_combined_times : List Str := ["length", "observations", "divisor", "factors", "time", "place"]
theorem nd_combined_times : (N_combined_times).Nodup := by decide
theorem sc_combined_times : FnScope N_combined_times ["length", "observations"] (defScope Hd.s_combined_times) := ⟨rfl, rfl, rfl, by decide +kernel, rfl, by decide +kernel, by decide +kernel⟩
theorem n_combined_times_length : Nm N_combined_times (defScope Hd.s_combined_times) 0 "length" := ⟨rfl, by decide +kernel, by decide +kernel, by decide +kernel⟩
theorem n_combined_times_observations : Nm N_combined_times (defScope Hd.s_combined_times) 1 "observations" := ⟨rfl, by decide +kernel, by decide +kernel, by decide +kernel⟩
theorem n_combined_times_divisor : Nm N_combined_times (defScope Hd.s_combined_times) 2 "divisor" := ⟨rfl, by decide +kernel, by decide +kernel, by decide +kernel⟩
theorem l_combined_times_divisor : Lc N_combined_times (defScope Hd.s_combined_times) 2 "divisor" := ⟨rfl, by decide +kernel⟩
theorem n_combined_times_factors : Nm N_combined_times (defScope Hd.s_combined_times) 3 "factors" := ⟨rfl, by decide +kernel, by decide +kernel, by decide +kernel⟩
theorem l_combined_times_factors : Lc N_combined_times (defScope Hd.s_combined_times) 3 "factors" := ⟨rfl, by decide +kernel⟩
theorem b_combined_times (T : Hd.TT K mg h) : BodyD P w K mg base N_combined_times "combined_times" (defScope Hd.s_combined_times) (defBody Hd.s_combined_times) (He.ga K "combined_times") 4 Cd.c_combined_times := fun cdv A outer s H E hr hgd tk po =>
  have hu := Room.units hr
  SB.cons (SS.asg rfl rfl rfl (SG.tup rfl rfl rfl (SGs.cons (ap rfl) (SG.nameN nd_combined_times l_combined_times_divisor rfl) (SGs.cons (ap rfl) (SG.nameN nd_combined_times l_combined_times_factors rfl) (SGs.nil)))) (Dn.SE.callP tk (hr.mono (j := 3) (by decide)) hgd (D_combined T) rfl rfl (sp rfl) (bt rfl) (SA.cons (sp rfl) (SE.bn ov_add (SE.lst (SA.cons (sp rfl) (SE.varN n_combined_times_length) (SA.nil))) (SE.v (SE.lc (own := [("time", 4), ("place", 5)]) rfl nd_combined_times (show BlkOk N_combined_times (defScope Hd.s_combined_times) _ _ from ⟨rfl, by decide +kernel, by decide +kernel, by decide +kernel, by decide +kernel⟩) (by decide) (fun _ => rfl) (SI.data (SE.varN n_combined_times_observations)) (fun _ _ _ _ _ => SGw.tup rfl rfl rfl (SGsw.cons (ap rfl) (SGw.nameN nd_combined_times ⟨rfl, rfl⟩ rfl (by decide)) (SGsw.cons (ap rfl) (SGw.nameN nd_combined_times ⟨rfl, rfl⟩ rfl (by decide)) (SGsw.nil)))) (fun _ _ _ _ _ => STs.nil) (fun _ _ _ _ _ => SE.varN ⟨rfl, rfl, rfl, rfl⟩)))) (SA.nil)))) (SB.cons (SS.ret (SE.tup (SA.cons (sp rfl) (SE.varN n_combined_times_divisor) (SA.cons (sp rfl) (SE.slice (SE.varN n_combined_times_factors) (SO.some (SE.int)) (SO.none)) (SA.nil))))) (SB.nil))
theorem D_combined_times (T : Hd.TT K mg h) : Def1 P w K mg base "combined_times" 5 ["length", "observations"] [] (spF K Cd.m_combined_times Cd.F_combined_times) :=
  def1 T.tb (Hd.g_combined_times T) 7 rfl rfl rfl rfl (fun _ _ _ _ _ _ us hl => match us, hl with | [_, _], _ => rfl) fun fd F => fn_ok F sc_combined_times rfl (by decide) (b_combined_times T)
abbrev N_find_class : List Str := ["length", "observations", "divisor", "factors", "total", "factor", "time", "place", "index", "refusal", "at", "modulus"]
theorem nd_find_class : (N_find_class).Nodup := by decide
theorem sc_find_class : FnScope N_find_class ["length", "observations"] (defScope Hd.s_find_class) := ⟨rfl, rfl, rfl, by decide +kernel, rfl, by decide +kernel, by decide +kernel⟩
theorem n_find_class_length : Nm N_find_class (defScope Hd.s_find_class) 0 "length" := ⟨rfl, by decide +kernel, by decide +kernel, by decide +kernel⟩
theorem n_find_class_observations : Nm N_find_class (defScope Hd.s_find_class) 1 "observations" := ⟨rfl, by decide +kernel, by decide +kernel, by decide +kernel⟩
theorem n_find_class_divisor : Nm N_find_class (defScope Hd.s_find_class) 2 "divisor" := ⟨rfl, by decide +kernel, by decide +kernel, by decide +kernel⟩
theorem l_find_class_divisor : Lc N_find_class (defScope Hd.s_find_class) 2 "divisor" := ⟨rfl, by decide +kernel⟩
theorem n_find_class_factors : Nm N_find_class (defScope Hd.s_find_class) 3 "factors" := ⟨rfl, by decide +kernel, by decide +kernel, by decide +kernel⟩
theorem l_find_class_factors : Lc N_find_class (defScope Hd.s_find_class) 3 "factors" := ⟨rfl, by decide +kernel⟩
theorem n_find_class_total : Nm N_find_class (defScope Hd.s_find_class) 4 "total" := ⟨rfl, by decide +kernel, by decide +kernel, by decide +kernel⟩
theorem l_find_class_total : Lc N_find_class (defScope Hd.s_find_class) 4 "total" := ⟨rfl, by decide +kernel⟩
theorem n_find_class_time : Nm N_find_class (defScope Hd.s_find_class) 6 "time" := ⟨rfl, by decide +kernel, by decide +kernel, by decide +kernel⟩
theorem l_find_class_time : Lc N_find_class (defScope Hd.s_find_class) 6 "time" := ⟨rfl, by decide +kernel⟩
theorem n_find_class_place : Nm N_find_class (defScope Hd.s_find_class) 7 "place" := ⟨rfl, by decide +kernel, by decide +kernel, by decide +kernel⟩
theorem l_find_class_place : Lc N_find_class (defScope Hd.s_find_class) 7 "place" := ⟨rfl, by decide +kernel⟩
theorem l_find_class_index : Lc N_find_class (defScope Hd.s_find_class) 8 "index" := ⟨rfl, by decide +kernel⟩
theorem n_find_class_refusal : Nm N_find_class (defScope Hd.s_find_class) 9 "refusal" := ⟨rfl, by decide +kernel, by decide +kernel, by decide +kernel⟩
theorem l_find_class_refusal : Lc N_find_class (defScope Hd.s_find_class) 9 "refusal" := ⟨rfl, by decide +kernel⟩
theorem n_find_class_modulus : Nm N_find_class (defScope Hd.s_find_class) 11 "modulus" := ⟨rfl, by decide +kernel, by decide +kernel, by decide +kernel⟩
theorem l_find_class_modulus : Lc N_find_class (defScope Hd.s_find_class) 11 "modulus" := ⟨rfl, by decide +kernel⟩
theorem b_find_class_0 (T : Hd.TT K mg h) : BodyD P w K mg base N_find_class "find_class" (defScope Hd.s_find_class) (foB (atB (defBody Hd.s_find_class) 3)) (He.ga K "find_class") 6 Cd.c_find_class_0 := fun cdv A outer s H E hr hgd tk po =>
  have hu := Room.units hr
  SB.cons (SS.ite (ST.cmpn (ov_ne hu) rfl (SE.bn ov_mod (SE.bn ov_sub (SE.bn ov_mul (SE.bpN ov_div n_find_class_time (SV.pkN n_find_class_divisor)) (SV.pkN n_find_class_total)) (SV.pkN n_find_class_place)) (SV.pkN n_find_class_length)) (SE.v (SE.int))) (SB.cons (SS.setLc (own := [("at", 10), ("factor", 5)]) rfl nd_find_class rfl rfl (sw_true rfl rfl rfl rfl) (show BlkOk N_find_class (defScope Hd.s_find_class) _ _ from ⟨rfl, by decide +kernel, by decide +kernel, by decide +kernel, by decide +kernel⟩) (by decide) (fun _ => rfl) (SI.enumS rfl (Hd.b_enumerate T) (sp rfl) (SA.cons (sp rfl) (SE.varN n_find_class_factors) (SA.nil))) (fun _ _ _ _ _ => SGw.tup rfl rfl rfl (SGsw.cons (ap rfl) (SGw.nameN nd_find_class ⟨rfl, rfl⟩ rfl (by decide)) (SGsw.cons (ap rfl) (SGw.nameN nd_find_class ⟨rfl, rfl⟩ rfl (by decide)) (SGsw.nil)))) (fun _ _ _ _ _ => STs.nil) (fun _ _ _ _ _ => SE.bn ov_sub (SE.bn ov_mul (SE.bpN ov_div ⟨rfl, rfl, rfl, rfl⟩ (SV.pkN ⟨rfl, rfl, rfl, rfl⟩)) (SV.pkN ⟨rfl, rfl, rfl, rfl⟩)) (SE.v (SE.callT1 cv_int (Hd.b_int T) (by decide +kernel) rfl (by decide) rfl (sp rfl) (bt rfl) (SE.v (SE.cmppN (ov_eq hu) rfl ⟨rfl, rfl, rfl, rfl⟩ (SV.pkN ⟨rfl, rfl, rfl, rfl⟩))))))) (SB.cons (SS.ret (SE.tup (SA.cons (sp rfl) (SE.non) (SA.cons (sp rfl) (SE.callT1 cv_tuple (Hd.b_tuple T) (by decide +kernel) rfl (by decide) rfl (sp rfl) (bt rfl) (SV.pkN n_find_class_refusal)) (SA.nil))))) (SB.nil))) (SB.nil)) (SB.nil)
theorem b_find_class (T : Hd.TT K mg h) : BodyD P w K mg base N_find_class "find_class" (defScope Hd.s_find_class) (defBody Hd.s_find_class) (He.ga K "find_class") 6 Cd.c_find_class := fun cdv A outer s H E hr hgd tk po =>
  have hu := Room.units hr
  SB.cons (SS.asg rfl rfl rfl (SG.tup rfl rfl rfl (SGs.cons (ap rfl) (SG.nameN nd_find_class l_find_class_divisor rfl) (SGs.cons (ap rfl) (SG.nameN nd_find_class l_find_class_factors rfl) (SGs.nil)))) (Dn.SE.callP tk (hr.mono (j := 5) (by decide)) hgd (D_combined_times T) rfl rfl (sp rfl) (bt rfl) (SA.cons (sp rfl) (SE.varN n_find_class_length) (SA.cons (sp rfl) (SE.varN n_find_class_observations) (SA.nil))))) (SB.cons (SS.setN nd_find_class l_find_class_total rfl rfl (SE.callB1 (cv_sum rfl) (Hd.b_sum T) (by decide +kernel) rfl (by decide) rfl (sp rfl) (bt rfl) (SE.v (SE.lc (own := [("factor", 5), ("time", 6), ("place", 7)]) rfl nd_find_class (show BlkOk N_find_class (defScope Hd.s_find_class) _ _ from ⟨rfl, by decide +kernel, by decide +kernel, by decide +kernel, by decide +kernel⟩) (by decide) (fun _ => rfl) (SI.zipK rfl (Hd.b_zip T) (bs2 rfl) (bs3 rfl) (SA.cons (sp rfl) (SE.varN n_find_class_factors) (SA.cons (sp rfl) (SE.varN n_find_class_observations) (SA.nil)))) (fun _ _ _ _ _ => SGw.tup rfl rfl rfl (SGsw.cons (ap rfl) (SGw.nameN nd_find_class ⟨rfl, rfl⟩ rfl (by decide)) (SGsw.cons (ap rfl) (SGw.tup rfl rfl rfl (SGsw.cons (ap rfl) (SGw.nameN nd_find_class ⟨rfl, rfl⟩ rfl (by decide)) (SGsw.cons (ap rfl) (SGw.nameN nd_find_class ⟨rfl, rfl⟩ rfl (by decide)) (SGsw.nil)))) (SGsw.nil)))) (fun _ _ _ _ _ => STs.nil) (fun _ _ _ _ _ => SE.bpN ov_mul ⟨rfl, rfl, rfl, rfl⟩ (SV.pkN ⟨rfl, rfl, rfl, rfl⟩)))))) (SB.cons (SS.ite (ST.cmpn (ov_ne hu) rfl (SE.bpN ov_mod n_find_class_total (SV.pkN n_find_class_divisor)) (SE.v (SE.int))) (SB.cons (SS.ret (SE.tup (SA.cons (sp rfl) (SE.non) (SA.cons (sp rfl) (SE.callT1 cv_tuple (Hd.b_tuple T) (by decide +kernel) rfl (by decide) rfl (sp rfl) (bt rfl) (SE.v (SE.lc (own := [("factor", 5)]) rfl nd_find_class (show BlkOk N_find_class (defScope Hd.s_find_class) _ _ from ⟨rfl, by decide +kernel, by decide +kernel, by decide +kernel, by decide +kernel⟩) (by decide) (fun _ => rfl) (SI.data (SE.varN n_find_class_factors)) (fun _ _ _ _ _ => SGw.nameN nd_find_class ⟨rfl, rfl⟩ rfl (by decide)) (fun _ _ _ _ _ => STs.nil) (fun _ _ _ _ _ => SE.bn ov_mul (SE.bpN ov_div ⟨rfl, rfl, rfl, rfl⟩ (SV.pkN ⟨rfl, rfl, rfl, rfl⟩)) (SV.pkN ⟨rfl, rfl, rfl, rfl⟩))))) (SA.nil))))) (SB.nil)) (SB.nil)) (SB.cons (SS.for po rfl (fun _ => rfl) (SI.enumS rfl (Hd.b_enumerate T) (sp rfl) (SA.cons (sp rfl) (SE.varN n_find_class_observations) (SA.nil))) (SG.tup rfl rfl rfl (SGs.cons (ap rfl) (SG.nameN nd_find_class l_find_class_index rfl) (SGs.cons (ap rfl) (SG.tup rfl rfl rfl (SGs.cons (ap rfl) (SG.nameN nd_find_class l_find_class_time rfl) (SGs.cons (ap rfl) (SG.nameN nd_find_class l_find_class_place rfl) (SGs.nil)))) (SGs.nil)))) ((b_find_class_0 T cdv A outer s H E hr hgd tk po))) (SB.cons (SS.setN nd_find_class l_find_class_modulus rfl rfl (SE.bpN ov_div n_find_class_length (SV.pkN n_find_class_divisor))) (SB.cons (SS.ret (SE.tup (SA.cons (sp rfl) (SE.tup (SA.cons (sp rfl) (SE.bn ov_mod (SE.bpN ov_div n_find_class_total (SV.pkN n_find_class_divisor)) (SV.pkN n_find_class_modulus)) (SA.cons (sp rfl) (SE.varN n_find_class_modulus) (SA.nil)))) (SA.cons (sp rfl) (SE.non) (SA.nil))))) (SB.nil))))))
theorem D_find_class (T : Hd.TT K mg h) : Def1 P w K mg base "find_class" 7 ["length", "observations"] [] (spF K Cd.m_find_class Cd.F_find_class) :=
  def1 T.tb (Hd.g_find_class T) 8 rfl rfl rfl rfl (fun _ _ _ _ _ _ us hl => match us, hl with | [_, _], _ => rfl) fun fd F => fn_ok F sc_find_class rfl (by decide) (b_find_class T)
abbrev N_is_integer : List Str := ["value"]
theorem nd_is_integer : (N_is_integer).Nodup := by decide
theorem sc_is_integer : FnScope N_is_integer ["value"] (defScope Hd.s_is_integer) := ⟨rfl, rfl, rfl, by decide +kernel, rfl, by decide +kernel, by decide +kernel⟩
theorem n_is_integer_value : Nm N_is_integer (defScope Hd.s_is_integer) 0 "value" := ⟨rfl, by decide +kernel, by decide +kernel, by decide +kernel⟩
theorem b_is_integer (T : Hd.TT K mg h) : BodyD P w K mg base N_is_integer "is_integer" (defScope Hd.s_is_integer) (defBody Hd.s_is_integer) (He.ga K "is_integer") 0 Cd.c_is_integer := fun cdv A outer s H E hr hgd tk po =>
  have hu := Room.units hr
  SB.cons (SS.ret (SE.and (SE.isa (Hd.b_isinstance T) (Hd.b_int T) (by decide +kernel) rfl rfl (by decide) rfl (sp rfl) (sp rfl) (bt rfl) (SV.pkN n_is_integer_value)) (SE.one (SE.not (SE.isa (Hd.b_isinstance T) (Hd.b_bool T) (by decide +kernel) rfl rfl (by decide) rfl (sp rfl) (sp rfl) (bt rfl) (SV.pkN n_is_integer_value)))))) (SB.nil)
theorem D_is_integer (T : Hd.TT K mg h) : Def1 P w K mg base "is_integer" 1 ["value"] [] (spF K Cd.m_is_integer Cd.F_is_integer) :=
  def1 T.tb (Hd.g_is_integer T) 0 rfl rfl rfl rfl (fun _ _ _ _ _ _ us hl => match us, hl with | [_], _ => rfl) fun fd F => fn_ok F sc_is_integer rfl (by decide) (b_is_integer T)
abbrev N_validate_bounds : List Str := ["low", "high"]
theorem nd_validate_bounds : (N_validate_bounds).Nodup := by decide
theorem sc_validate_bounds : FnScope N_validate_bounds ["low", "high"] (defScope Hd.s_validate_bounds) := ⟨rfl, rfl, rfl, by decide +kernel, rfl, by decide +kernel, by decide +kernel⟩
theorem n_validate_bounds_low : Nm N_validate_bounds (defScope Hd.s_validate_bounds) 0 "low" := ⟨rfl, by decide +kernel, by decide +kernel, by decide +kernel⟩
theorem n_validate_bounds_high : Nm N_validate_bounds (defScope Hd.s_validate_bounds) 1 "high" := ⟨rfl, by decide +kernel, by decide +kernel, by decide +kernel⟩
theorem b_validate_bounds (T : Hd.TT K mg h) : BodyD P w K mg base N_validate_bounds "validate_bounds" (defScope Hd.s_validate_bounds) (defBody Hd.s_validate_bounds) (He.ga K "validate_bounds") 2 Cd.c_validate_bounds := fun cdv A outer s H E hr hgd tk po =>
  have hu := Room.units hr
  SB.cons (SS.ite (ST.wp (SW.or (ST.not (ST.tru (fun _ => rfl) (SE.v (Dn.SE.callP tk (hr.mono (j := 1) (by decide)) hgd (D_is_integer T) rfl rfl (sp rfl) (bt rfl) (SA.cons (sp rfl) (SE.varN n_validate_bounds_low) (SA.nil)))))) (SW.or1 (ST.not (ST.tru (fun _ => rfl) (SE.v (Dn.SE.callP tk (hr.mono (j := 1) (by decide)) hgd (D_is_integer T) rfl rfl (sp rfl) (bt rfl) (SA.cons (sp rfl) (SE.varN n_validate_bounds_high) (SA.nil))))))))) (SB.cons (SS.no) (SB.nil)) (SB.nil)) (SB.nil)
theorem D_validate_bounds (T : Hd.TT K mg h) : Def1 P w K mg base "validate_bounds" 3 ["low", "high"] [] (spF K Cd.m_validate_bounds Cd.F_validate_bounds) :=
  def1 T.tb (Hd.g_validate_bounds T) 9 rfl rfl rfl rfl (fun _ _ _ _ _ _ us hl => match us, hl with | [_, _], _ => rfl) fun fd F => fn_ok F sc_validate_bounds rfl (by decide) (b_validate_bounds T)
abbrev N_is_observation : List Str := ["value"]
theorem nd_is_observation : (N_is_observation).Nodup := by decide
theorem sc_is_observation : FnScope N_is_observation ["value"] (defScope Hd.s_is_observation) := ⟨rfl, rfl, rfl, by decide +kernel, rfl, by decide +kernel, by decide +kernel⟩
theorem n_is_observation_value : Nm N_is_observation (defScope Hd.s_is_observation) 0 "value" := ⟨rfl, by decide +kernel, by decide +kernel, by decide +kernel⟩
theorem b_is_observation (T : Hd.TT K mg h) : BodyD P w K mg base N_is_observation "is_observation" (defScope Hd.s_is_observation) (defBody Hd.s_is_observation) (He.ga K "is_observation") 2 Cd.c_is_observation := fun cdv A outer s H E hr hgd tk po =>
  have hu := Room.units hr
  SB.cons (SS.ite (ST.wp (SW.or (ST.not (ST.tru (fun _ => rfl) (SE.v (SE.isa (Hd.b_isinstance T) (Hd.b_tuple T) (by decide +kernel) rfl rfl (by decide) rfl (sp rfl) (sp rfl) (bt rfl) (SV.pkN n_is_observation_value))))) (SW.or1 (ST.cmpn (ov_ne hu) rfl (SE.callB1 cv_len (Hd.b_len T) (by decide +kernel) rfl (by decide) rfl (sp rfl) (bt rfl) (SV.pkN n_is_observation_value)) (SE.v (SE.int)))))) (SB.cons (SS.ret (SE.bl)) (SB.nil)) (SB.nil)) (SB.cons (SS.ret (SE.and (Dn.SE.callP tk (hr.mono (j := 1) (by decide)) hgd (D_is_integer T) rfl rfl (sp rfl) (bt rfl) (SA.cons (sp rfl) (SE.ixpN hu (fun _ _ => rfl) n_is_observation_value (SE.v (SE.int))) (SA.nil))) (SE.and (Dn.SE.callP tk (hr.mono (j := 1) (by decide)) hgd (D_is_integer T) rfl rfl (sp rfl) (bt rfl) (SA.cons (sp rfl) (SE.ixpN hu (fun _ _ => rfl) n_is_observation_value (SE.v (SE.int))) (SA.nil))) (SE.one (SE.cmpn ov_ge rfl (SE.ixpN hu (fun _ _ => rfl) n_is_observation_value (SE.v (SE.int))) (SE.v (SE.int))))))) (SB.nil))
theorem D_is_observation (T : Hd.TT K mg h) : Def1 P w K mg base "is_observation" 3 ["value"] [] (spF K Cd.m_is_observation Cd.F_is_observation) :=
  def1 T.tb (Hd.g_is_observation T) 5 rfl rfl rfl rfl (fun _ _ _ _ _ _ us hl => match us, hl with | [_], _ => rfl) fun fd F => fn_ok F sc_is_observation rfl (by decide) (b_is_observation T)
end
end Wk

namespace Wk
open PySem PySem.Spec PyProof.Rows L2 Dn Cd
section
variable {P : Program} {w : World} {K : PySem.W.Frag} {mg : Str → Option Value} {base h : Heap}
abbrev N_validate_length : List Str := ["length"]
theorem nd_validate_length : (N_validate_length).Nodup := by decide
theorem sc_validate_length : FnScope N_validate_length ["length"] (defScope Hd.s_validate_length) := ⟨rfl, rfl, rfl, by decide +kernel, rfl, by decide +kernel, by decide +kernel⟩
theorem n_validate_length_length : Nm N_validate_length (defScope Hd.s_validate_length) 0 "length" := ⟨rfl, by decide +kernel, by decide +kernel, by decide +kernel⟩
theorem b_validate_length (T : Hd.TT K mg h) : BodyD P w K mg base N_validate_length "validate_length" (defScope Hd.s_validate_length) (defBody Hd.s_validate_length) (He.ga K "validate_length") 2 Cd.c_validate_length := fun cdv A outer s H E hr hgd tk po =>
  have hu := Room.units hr
  SB.cons (SS.ite (ST.wp (SW.or (ST.not (ST.tru (fun _ => rfl) (SE.v (Dn.SE.callP tk (hr.mono (j := 1) (by decide)) hgd (D_is_integer T) rfl rfl (sp rfl) (bt rfl) (SA.cons (sp rfl) (SE.varN n_validate_length_length) (SA.nil)))))) (SW.or1 (ST.cmppN ov_lt rfl n_validate_length_length (SE.v (SE.int)))))) (SB.cons (SS.no) (SB.nil)) (SB.nil)) (SB.nil)
theorem D_validate_length (T : Hd.TT K mg h) : Def1 P w K mg base "validate_length" 3 ["length"] [] (spF K Cd.m_validate_length Cd.F_validate_length) :=
  def1 T.tb (Hd.g_validate_length T) 4 rfl rfl rfl rfl (fun _ _ _ _ _ _ us hl => match us, hl with | [_], _ => rfl) fun fd F => fn_ok F sc_validate_length rfl (by decide) (b_validate_length T)
abbrev N_validate_observations : List Str := ["length", "observations", "index", "observation"]
theorem nd_validate_observations : (N_validate_observations).Nodup := by decide
theorem sc_validate_observations : FnScope N_validate_observations ["length", "observations"] (defScope Hd.s_validate_observations) := ⟨rfl, rfl, rfl, by decide +kernel, rfl, by decide +kernel, by decide +kernel⟩
theorem n_validate_observations_length : Nm N_validate_observations (defScope Hd.s_validate_observations) 0 "length" := ⟨rfl, by decide +kernel, by decide +kernel, by decide +kernel⟩
theorem n_validate_observations_observations : Nm N_validate_observations (defScope Hd.s_validate_observations) 1 "observations" := ⟨rfl, by decide +kernel, by decide +kernel, by decide +kernel⟩
theorem l_validate_observations_index : Lc N_validate_observations (defScope Hd.s_validate_observations) 2 "index" := ⟨rfl, by decide +kernel⟩
theorem n_validate_observations_observation : Nm N_validate_observations (defScope Hd.s_validate_observations) 3 "observation" := ⟨rfl, by decide +kernel, by decide +kernel, by decide +kernel⟩
theorem l_validate_observations_observation : Lc N_validate_observations (defScope Hd.s_validate_observations) 3 "observation" := ⟨rfl, by decide +kernel⟩
theorem b_validate_observations_0 (T : Hd.TT K mg h) : BodyD P w K mg base N_validate_observations "validate_observations" (defScope Hd.s_validate_observations) (foB (atB (defBody Hd.s_validate_observations) 2)) (He.ga K "validate_observations") 4 Cd.c_validate_observations_0 := fun cdv A outer s H E hr hgd tk po =>
  have hu := Room.units hr
  SB.cons (SS.ite (ST.not (ST.tru (fun _ => rfl) (SE.v (Dn.SE.callP tk (hr.mono (j := 3) (by decide)) hgd (D_is_observation T) rfl rfl (sp rfl) (bt rfl) (SA.cons (sp rfl) (SE.varN n_validate_observations_observation) (SA.nil)))))) (SB.cons (SS.no) (SB.nil)) (SB.nil)) (SB.nil)
theorem b_validate_observations (T : Hd.TT K mg h) : BodyD P w K mg base N_validate_observations "validate_observations" (defScope Hd.s_validate_observations) (defBody Hd.s_validate_observations) (He.ga K "validate_observations") 4 Cd.c_validate_observations := fun cdv A outer s H E hr hgd tk po =>
  have hu := Room.units hr
  SB.cons (SS.expr rfl (Dn.SE.callP tk (hr.mono (j := 3) (by decide)) hgd (D_validate_length T) rfl rfl (sp rfl) (bt rfl) (SA.cons (sp rfl) (SE.varN n_validate_observations_length) (SA.nil)))) (SB.cons (SS.ite (ST.wp (SW.or (ST.not (ST.tru (fun _ => rfl) (SE.v (SE.isaT (Hd.b_isinstance T) rfl (by decide) (sp rfl) (sp rfl) (bt rfl) (.cons (Hd.b_list T) (by decide +kernel) rfl (by decide) rfl (sp rfl) (.cons (Hd.b_tuple T) (by decide +kernel) rfl (by decide) rfl (sp rfl) (TyNames.nil))) (SV.pkN n_validate_observations_observations))))) (SW.or1 (ST.cmpn ov_gt rfl (SE.callB1 cv_len (Hd.b_len T) (by decide +kernel) rfl (by decide) rfl (sp rfl) (bt rfl) (SV.pkN n_validate_observations_observations)) (SE.v (SE.globI (Hd.i_MAX_OBSERVATIONS T) rfl rfl)))))) (SB.cons (SS.no) (SB.nil)) (SB.nil)) (SB.cons (SS.for po rfl (fun _ => rfl) (SI.enumS rfl (Hd.b_enumerate T) (sp rfl) (SA.cons (sp rfl) (SE.varN n_validate_observations_observations) (SA.nil))) (SG.tup rfl rfl rfl (SGs.cons (ap rfl) (SG.nameN nd_validate_observations l_validate_observations_index rfl) (SGs.cons (ap rfl) (SG.nameN nd_validate_observations l_validate_observations_observation rfl) (SGs.nil)))) ((b_validate_observations_0 T cdv A outer s H E hr hgd tk po))) (SB.nil)))
theorem D_validate_observations (T : Hd.TT K mg h) : Def1 P w K mg base "validate_observations" 5 ["length", "observations"] [] (spF K Cd.m_validate_observations Cd.F_validate_observations) :=
  def1 T.tb (Hd.g_validate_observations T) 6 rfl rfl rfl rfl (fun _ _ _ _ _ _ us hl => match us, hl with | [_, _], _ => rfl) fun fd F => fn_ok F sc_validate_observations rfl (by decide) (b_validate_observations T)
abbrev N_count_speeds : List Str := ["length", "observations", "low", "high", "found", "first", "step"]
theorem nd_count_speeds : (N_count_speeds).Nodup := by decide
theorem sc_count_speeds : FnScope N_count_speeds ["length", "observations", "low", "high"] (defScope Hd.s_count_speeds) := ⟨rfl, rfl, rfl, by decide +kernel, rfl, by decide +kernel, by decide +kernel⟩
theorem n_count_speeds_length : Nm N_count_speeds (defScope Hd.s_count_speeds) 0 "length" := ⟨rfl, by decide +kernel, by decide +kernel, by decide +kernel⟩
theorem n_count_speeds_observations : Nm N_count_speeds (defScope Hd.s_count_speeds) 1 "observations" := ⟨rfl, by decide +kernel, by decide +kernel, by decide +kernel⟩
theorem n_count_speeds_low : Nm N_count_speeds (defScope Hd.s_count_speeds) 2 "low" := ⟨rfl, by decide +kernel, by decide +kernel, by decide +kernel⟩
theorem n_count_speeds_high : Nm N_count_speeds (defScope Hd.s_count_speeds) 3 "high" := ⟨rfl, by decide +kernel, by decide +kernel, by decide +kernel⟩
theorem n_count_speeds_found : Nm N_count_speeds (defScope Hd.s_count_speeds) 4 "found" := ⟨rfl, by decide +kernel, by decide +kernel, by decide +kernel⟩
theorem l_count_speeds_found : Lc N_count_speeds (defScope Hd.s_count_speeds) 4 "found" := ⟨rfl, by decide +kernel⟩
theorem n_count_speeds_first : Nm N_count_speeds (defScope Hd.s_count_speeds) 5 "first" := ⟨rfl, by decide +kernel, by decide +kernel, by decide +kernel⟩
theorem l_count_speeds_first : Lc N_count_speeds (defScope Hd.s_count_speeds) 5 "first" := ⟨rfl, by decide +kernel⟩
theorem n_count_speeds_step : Nm N_count_speeds (defScope Hd.s_count_speeds) 6 "step" := ⟨rfl, by decide +kernel, by decide +kernel, by decide +kernel⟩
theorem l_count_speeds_step : Lc N_count_speeds (defScope Hd.s_count_speeds) 6 "step" := ⟨rfl, by decide +kernel⟩
theorem b_count_speeds (T : Hd.TT K mg h) : BodyD P w K mg base N_count_speeds "count_speeds" (defScope Hd.s_count_speeds) (defBody Hd.s_count_speeds) (He.ga K "count_speeds") 8 Cd.c_count_speeds := fun cdv A outer s H E hr hgd tk po =>
  have hu := Room.units hr
  SB.cons (SS.expr rfl (Dn.SE.callP tk (hr.mono (j := 5) (by decide)) hgd (D_validate_observations T) rfl rfl (sp rfl) (bt rfl) (SA.cons (sp rfl) (SE.varN n_count_speeds_length) (SA.cons (sp rfl) (SE.varN n_count_speeds_observations) (SA.nil))))) (SB.cons (SS.expr rfl (Dn.SE.callP tk (hr.mono (j := 3) (by decide)) hgd (D_validate_bounds T) rfl rfl (sp rfl) (bt rfl) (SA.cons (sp rfl) (SE.varN n_count_speeds_low) (SA.cons (sp rfl) (SE.varN n_count_speeds_high) (SA.nil))))) (SB.cons (SS.setN nd_count_speeds l_count_speeds_found rfl rfl (SE.ix hu (fun _ _ => rfl) (Dn.SE.callP tk (hr.mono (j := 7) (by decide)) hgd (D_find_class T) rfl rfl (sp rfl) (bt rfl) (SA.cons (sp rfl) (SE.varN n_count_speeds_length) (SA.cons (sp rfl) (SE.varN n_count_speeds_observations) (SA.nil)))) (SE.v (SE.int)))) (SB.cons (SS.ite (ST.wp (SW.or (ST.cmppN ov_is rfl n_count_speeds_found (SE.v (SE.non))) (SW.or1 (ST.cmppN ov_gt rfl n_count_speeds_low (SV.pkN n_count_speeds_high))))) (SB.cons (SS.ret (SE.int)) (SB.nil)) (SB.nil)) (SB.cons (SS.asg rfl rfl rfl (SG.tup rfl rfl rfl (SGs.cons (ap rfl) (SG.nameN nd_count_speeds l_count_speeds_first rfl) (SGs.cons (ap rfl) (SG.nameN nd_count_speeds l_count_speeds_step rfl) (SGs.nil)))) (SE.varN n_count_speeds_found)) (SB.cons (SS.ret (SE.bn ov_sub (SE.bn ov_div (SE.bpN ov_sub n_count_speeds_high (SV.pkN n_count_speeds_first)) (SV.pkN n_count_speeds_step)) (SE.v (SE.bn ov_div (SE.bn ov_sub (SE.bpN ov_sub n_count_speeds_low (SE.v (SE.int))) (SV.pkN n_count_speeds_first)) (SV.pkN n_count_speeds_step))))) (SB.nil))))))
theorem D_count_speeds (T : Hd.TT K mg h) : Def1 P w K mg base "count_speeds" 9 ["length", "observations", "low", "high"] [] (spF K Cd.m_count_speeds Cd.F_count_speeds) :=
  def1 T.tb (Hd.g_count_speeds T) 10 rfl rfl rfl rfl (fun _ _ _ _ _ _ us hl => match us, hl with | [_, _, _, _], _ => rfl) fun fd F => fn_ok F sc_count_speeds rfl (by decide) (b_count_speeds T)
abbrev N_common_divisor : List Str := ["first", "second"]
theorem nd_common_divisor : (N_common_divisor).Nodup := by decide
theorem sc_common_divisor : FnScope N_common_divisor ["first", "second"] (defScope Hd.s_common_divisor) := ⟨rfl, rfl, rfl, by decide +kernel, rfl, by decide +kernel, by decide +kernel⟩
theorem n_common_divisor_first : Nm N_common_divisor (defScope Hd.s_common_divisor) 0 "first" := ⟨rfl, by decide +kernel, by decide +kernel, by decide +kernel⟩
theorem n_common_divisor_second : Nm N_common_divisor (defScope Hd.s_common_divisor) 1 "second" := ⟨rfl, by decide +kernel, by decide +kernel, by decide +kernel⟩
theorem b_common_divisor_0 (T : Hd.TT K mg h) : BodyD P w K mg base N_common_divisor "common_divisor" (defScope Hd.s_common_divisor) (whB (atB (defBody Hd.s_common_divisor) 0)) (He.ga K "common_divisor") 0 Cd.c_common_divisor_0 := fun cdv A outer s H E hr hgd tk po =>
  have hu := Room.units hr
  SB.cons (SS.par2 rfl nd_common_divisor rfl rfl (by decide) rfl rfl rfl rfl (sp rfl) (sp rfl) (SE.varN n_common_divisor_second) (SE.bpN ov_mod n_common_divisor_first (SV.pkN n_common_divisor_second))) (SB.nil)
theorem b_common_divisor (T : Hd.TT K mg h) : BodyD P w K mg base N_common_divisor "common_divisor" (defScope Hd.s_common_divisor) (defBody Hd.s_common_divisor) (He.ga K "common_divisor") 0 Cd.c_common_divisor := fun cdv A outer s H E hr hgd tk po =>
  have hu := Room.units hr
  SB.cons (SS.while po (ST.cmppN (ov_ne hu) rfl n_common_divisor_second (SE.v (SE.int))) ((b_common_divisor_0 T cdv A outer s H E hr hgd tk po))) (SB.cons (SS.ret (SE.callB1 cv_abs (Hd.b_abs T) (by decide +kernel) rfl (by decide) rfl (sp rfl) (bt rfl) (SV.pkN n_common_divisor_first))) (SB.nil))
theorem D_common_divisor (T : Hd.TT K mg h) : Def1 P w K mg base "common_divisor" 1 ["first", "second"] [] (spF K Cd.m_common_divisor Cd.F_common_divisor) :=
  def1 T.tb (Hd.g_common_divisor T) 1 rfl rfl rfl rfl (fun _ _ _ _ _ _ us hl => match us, hl with | [_, _], _ => rfl) fun fd F => fn_ok F sc_common_divisor rfl (by decide) (b_common_divisor T)
abbrev N_next_look : List Str := ["length", "observations", "low", "high", "after", "count", "divisor", "time"]
theorem nd_next_look : (N_next_look).Nodup := by decide
theorem sc_next_look : FnScope N_next_look ["length", "observations", "low", "high", "after"] (defScope Hd.s_next_look) := ⟨rfl, rfl, rfl, by decide +kernel, rfl, by decide +kernel, by decide +kernel⟩
theorem n_next_look_length : Nm N_next_look (defScope Hd.s_next_look) 0 "length" := ⟨rfl, by decide +kernel, by decide +kernel, by decide +kernel⟩
theorem n_next_look_observations : Nm N_next_look (defScope Hd.s_next_look) 1 "observations" := ⟨rfl, by decide +kernel, by decide +kernel, by decide +kernel⟩
theorem n_next_look_low : Nm N_next_look (defScope Hd.s_next_look) 2 "low" := ⟨rfl, by decide +kernel, by decide +kernel, by decide +kernel⟩
theorem n_next_look_high : Nm N_next_look (defScope Hd.s_next_look) 3 "high" := ⟨rfl, by decide +kernel, by decide +kernel, by decide +kernel⟩
theorem n_next_look_after : Nm N_next_look (defScope Hd.s_next_look) 4 "after" := ⟨rfl, by decide +kernel, by decide +kernel, by decide +kernel⟩
theorem n_next_look_count : Nm N_next_look (defScope Hd.s_next_look) 5 "count" := ⟨rfl, by decide +kernel, by decide +kernel, by decide +kernel⟩
theorem l_next_look_count : Lc N_next_look (defScope Hd.s_next_look) 5 "count" := ⟨rfl, by decide +kernel⟩
theorem n_next_look_divisor : Nm N_next_look (defScope Hd.s_next_look) 6 "divisor" := ⟨rfl, by decide +kernel, by decide +kernel, by decide +kernel⟩
theorem l_next_look_divisor : Lc N_next_look (defScope Hd.s_next_look) 6 "divisor" := ⟨rfl, by decide +kernel⟩
theorem n_next_look_time : Nm N_next_look (defScope Hd.s_next_look) 7 "time" := ⟨rfl, by decide +kernel, by decide +kernel, by decide +kernel⟩
theorem l_next_look_time : Lc N_next_look (defScope Hd.s_next_look) 7 "time" := ⟨rfl, by decide +kernel⟩
theorem b_next_look_0 (T : Hd.TT K mg h) : BodyD P w K mg base N_next_look "next_look" (defScope Hd.s_next_look) (whB (atB (defBody Hd.s_next_look) 5)) (He.ga K "next_look") 10 Cd.c_next_look_0 := fun cdv A outer s H E hr hgd tk po =>
  have hu := Room.units hr
  SB.cons (SS.augAddN nd_next_look l_next_look_time rfl (SE.int)) (SB.nil)
theorem b_next_look (T : Hd.TT K mg h) : BodyD P w K mg base N_next_look "next_look" (defScope Hd.s_next_look) (defBody Hd.s_next_look) (He.ga K "next_look") 10 Cd.c_next_look := fun cdv A outer s H E hr hgd tk po =>
  have hu := Room.units hr
  SB.cons (SS.setN nd_next_look l_next_look_count rfl rfl (Dn.SE.callP tk (hr.mono (j := 9) (by decide)) hgd (D_count_speeds T) rfl rfl (sp rfl) (bt rfl) (SA.cons (sp rfl) (SE.varN n_next_look_length) (SA.cons (sp rfl) (SE.varN n_next_look_observations) (SA.cons (sp rfl) (SE.varN n_next_look_low) (SA.cons (sp rfl) (SE.varN n_next_look_high) (SA.nil))))))) (SB.cons (SS.ite (ST.wp (SW.or (ST.not (ST.tru (fun _ => rfl) (SE.v (Dn.SE.callP tk (hr.mono (j := 1) (by decide)) hgd (D_is_integer T) rfl rfl (sp rfl) (bt rfl) (SA.cons (sp rfl) (SE.varN n_next_look_after) (SA.nil)))))) (SW.or1 (ST.cmppN ov_lt rfl n_next_look_after (SE.v (SE.int)))))) (SB.cons (SS.no) (SB.nil)) (SB.nil)) (SB.cons (SS.setN nd_next_look l_next_look_divisor rfl rfl (SE.ix hu (fun _ _ => rfl) (Dn.SE.callP tk (hr.mono (j := 5) (by decide)) hgd (D_combined_times T) rfl rfl (sp rfl) (bt rfl) (SA.cons (sp rfl) (SE.varN n_next_look_length) (SA.cons (sp rfl) (SE.varN n_next_look_observations) (SA.nil)))) (SE.v (SE.int)))) (SB.cons (SS.ite (ST.cmppN ov_gt rfl n_next_look_count (SV.pkN n_next_look_divisor)) (SB.cons (SS.ret (SE.non)) (SB.nil)) (SB.nil)) (SB.cons (SS.setN nd_next_look l_next_look_time rfl rfl (SE.bpN ov_add n_next_look_after (SE.v (SE.int)))) (SB.cons (SS.while po (ST.cmpn ov_lt rfl (SE.bpN ov_div n_next_look_divisor (SE.v (Dn.SE.callP tk (hr.mono (j := 1) (by decide)) hgd (D_common_divisor T) rfl rfl (sp rfl) (bt rfl) (SA.cons (sp rfl) (SE.varN n_next_look_time) (SA.cons (sp rfl) (SE.varN n_next_look_divisor) (SA.nil)))))) (SV.pkN n_next_look_count)) ((b_next_look_0 T cdv A outer s H E hr hgd tk po))) (SB.cons (SS.retNN n_next_look_time) (SB.nil)))))))
theorem D_next_look (T : Hd.TT K mg h) : Def1 P w K mg base "next_look" 11 ["length", "observations", "low", "high", "after"] [V.int 0] (spF K Cd.m_next_look Cd.F_next_look) :=
  def0k (kv := [("after", V.int 0)]) T.tb (Hd.g_next_look T) 12 rfl rfl rfl rfl 4 (List.cons_ne_nil _ _) rfl (fun _ _ _ _ _ _ us ks hu hk => match us, ks, hu, hk with | [_, _, _, _], [_], _, _ => ⟨_, _, _, _, _, _, rfl, rfl, rfl⟩) fun fd F => fn_ok F sc_next_look rfl (by decide) (b_next_look T)
theorem DK_next_look (T : Hd.TT K mg h) : Def1K P w K mg base "next_look" 11 ["length", "observations", "low", "high", "after"] 4 "after" (spF K Cd.m_next_look Cd.F_next_look) :=
  def1k (kv := [("after", V.int 0)]) T.tb (Hd.g_next_look T) 12 rfl rfl rfl rfl 4 (fun _ _ _ _ _ _ us z hu => match us, hu with | [_, _, _, _], _ => rfl) fun fd F => fn_ok F sc_next_look rfl (by decide) (b_next_look T)
abbrev N_speeds_between : List Str := ["length", "observations", "low", "high", "count", "first", "step", "least", "index"]
theorem nd_speeds_between : (N_speeds_between).Nodup := by decide
theorem sc_speeds_between : FnScope N_speeds_between ["length", "observations", "low", "high"] (defScope Hd.s_speeds_between) := ⟨rfl, rfl, rfl, by decide +kernel, rfl, by decide +kernel, by decide +kernel⟩
theorem n_speeds_between_length : Nm N_speeds_between (defScope Hd.s_speeds_between) 0 "length" := ⟨rfl, by decide +kernel, by decide +kernel, by decide +kernel⟩
theorem n_speeds_between_observations : Nm N_speeds_between (defScope Hd.s_speeds_between) 1 "observations" := ⟨rfl, by decide +kernel, by decide +kernel, by decide +kernel⟩
theorem n_speeds_between_low : Nm N_speeds_between (defScope Hd.s_speeds_between) 2 "low" := ⟨rfl, by decide +kernel, by decide +kernel, by decide +kernel⟩
theorem n_speeds_between_high : Nm N_speeds_between (defScope Hd.s_speeds_between) 3 "high" := ⟨rfl, by decide +kernel, by decide +kernel, by decide +kernel⟩
theorem n_speeds_between_count : Nm N_speeds_between (defScope Hd.s_speeds_between) 4 "count" := ⟨rfl, by decide +kernel, by decide +kernel, by decide +kernel⟩
theorem l_speeds_between_count : Lc N_speeds_between (defScope Hd.s_speeds_between) 4 "count" := ⟨rfl, by decide +kernel⟩
theorem n_speeds_between_first : Nm N_speeds_between (defScope Hd.s_speeds_between) 5 "first" := ⟨rfl, by decide +kernel, by decide +kernel, by decide +kernel⟩
theorem l_speeds_between_first : Lc N_speeds_between (defScope Hd.s_speeds_between) 5 "first" := ⟨rfl, by decide +kernel⟩
theorem n_speeds_between_step : Nm N_speeds_between (defScope Hd.s_speeds_between) 6 "step" := ⟨rfl, by decide +kernel, by decide +kernel, by decide +kernel⟩
theorem l_speeds_between_step : Lc N_speeds_between (defScope Hd.s_speeds_between) 6 "step" := ⟨rfl, by decide +kernel⟩
theorem l_speeds_between_least : Lc N_speeds_between (defScope Hd.s_speeds_between) 7 "least" := ⟨rfl, by decide +kernel⟩
theorem b_speeds_between (T : Hd.TT K mg h) : BodyD P w K mg base N_speeds_between "speeds_between" (defScope Hd.s_speeds_between) (defBody Hd.s_speeds_between) (He.ga K "speeds_between") 10 Cd.c_speeds_between := fun cdv A outer s H E hr hgd tk po =>
  have hu := Room.units hr
  SB.cons (SS.setN nd_speeds_between l_speeds_between_count rfl rfl (Dn.SE.callP tk (hr.mono (j := 9) (by decide)) hgd (D_count_speeds T) rfl rfl (sp rfl) (bt rfl) (SA.cons (sp rfl) (SE.varN n_speeds_between_length) (SA.cons (sp rfl) (SE.varN n_speeds_between_observations) (SA.cons (sp rfl) (SE.varN n_speeds_between_low) (SA.cons (sp rfl) (SE.varN n_speeds_between_high) (SA.nil))))))) (SB.cons (SS.ite (ST.cmppN ov_gt rfl n_speeds_between_count (SE.v (SE.globI (Hd.i_MAX_SPEEDS T) rfl rfl))) (SB.cons (SS.no) (SB.nil)) (SB.nil)) (SB.cons (SS.ite (ST.cmppN (ov_eq hu) rfl n_speeds_between_count (SE.v (SE.int))) (SB.cons (SS.ret (SE.lst (SA.nil))) (SB.nil)) (SB.nil)) (SB.cons (SS.asg rfl rfl rfl (SG.tup rfl rfl rfl (SGs.cons (ap rfl) (SG.nameN nd_speeds_between l_speeds_between_first rfl) (SGs.cons (ap rfl) (SG.nameN nd_speeds_between l_speeds_between_step rfl) (SGs.nil)))) (SE.ix hu (fun _ _ => rfl) (Dn.SE.callP tk (hr.mono (j := 7) (by decide)) hgd (D_find_class T) rfl rfl (sp rfl) (bt rfl) (SA.cons (sp rfl) (SE.varN n_speeds_between_length) (SA.cons (sp rfl) (SE.varN n_speeds_between_observations) (SA.nil)))) (SE.v (SE.int)))) (SB.cons (SS.setN nd_speeds_between l_speeds_between_least rfl rfl (SE.bpN ov_add n_speeds_between_low (SE.v (SE.bn ov_mod (SE.bpN ov_sub n_speeds_between_first (SV.pkN n_speeds_between_low)) (SV.pkN n_speeds_between_step))))) (SB.cons (SS.ret (SE.lc (own := [("index", 8)]) rfl nd_speeds_between (show BlkOk N_speeds_between (defScope Hd.s_speeds_between) _ _ from ⟨rfl, by decide +kernel, by decide +kernel, by decide +kernel, by decide +kernel⟩) (by decide) (fun _ => rfl) (SI.rng1 rfl (Hd.b_range T) (sp rfl) (SA.cons (sp rfl) (SE.varN n_speeds_between_count) (SA.nil))) (fun _ _ _ _ _ => SGw.nameN nd_speeds_between ⟨rfl, rfl⟩ rfl (by decide)) (fun _ _ _ _ _ => STs.nil) (fun _ _ _ _ _ => SE.bpN ov_add ⟨rfl, rfl, rfl, rfl⟩ (SE.v (SE.bpN ov_mul ⟨rfl, rfl, rfl, rfl⟩ (SV.pkN ⟨rfl, rfl, rfl, rfl⟩)))))) (SB.nil))))))
theorem D_speeds_between (T : Hd.TT K mg h) : Def1 P w K mg base "speeds_between" 11 ["length", "observations", "low", "high"] [] (spF K Cd.m_speeds_between Cd.F_speeds_between) :=
  def1 T.tb (Hd.g_speeds_between T) 11 rfl rfl rfl rfl (fun _ _ _ _ _ _ us hl => match us, hl with | [_, _, _, _], _ => rfl) fun fd F => fn_ok F sc_speeds_between rfl (by decide) (b_speeds_between T)
end
end Wk

namespace Wk
open PySem PySem.Spec PyProof.Rows L2 Dn Cd
section
variable {P : Program} {w : World} {K : PySem.W.Frag} {mg : Str → Option Value} {base h : Heap}
abbrev N_law : List Str := ["script", "pool", "turn", "size", "observations", "low", "high", "known", "speed", "again", "found", "time"]
theorem nd_law : (N_law).Nodup := by decide
theorem sc_law : FnScope N_law ["script"] (defScope Hd.s_law) := ⟨rfl, rfl, rfl, by decide +kernel, rfl, by decide +kernel, by decide +kernel⟩
theorem n_law_script : Nm N_law (defScope Hd.s_law) 0 "script" := ⟨rfl, by decide +kernel, by decide +kernel, by decide +kernel⟩
theorem n_law_pool : Nm N_law (defScope Hd.s_law) 1 "pool" := ⟨rfl, by decide +kernel, by decide +kernel, by decide +kernel⟩
theorem l_law_pool : Lc N_law (defScope Hd.s_law) 1 "pool" := ⟨rfl, by decide +kernel⟩
theorem l_law_turn : Lc N_law (defScope Hd.s_law) 2 "turn" := ⟨rfl, by decide +kernel⟩
theorem n_law_size : Nm N_law (defScope Hd.s_law) 3 "size" := ⟨rfl, by decide +kernel, by decide +kernel, by decide +kernel⟩
theorem l_law_size : Lc N_law (defScope Hd.s_law) 3 "size" := ⟨rfl, by decide +kernel⟩
theorem n_law_observations : Nm N_law (defScope Hd.s_law) 4 "observations" := ⟨rfl, by decide +kernel, by decide +kernel, by decide +kernel⟩
theorem l_law_observations : Lc N_law (defScope Hd.s_law) 4 "observations" := ⟨rfl, by decide +kernel⟩
theorem n_law_low : Nm N_law (defScope Hd.s_law) 5 "low" := ⟨rfl, by decide +kernel, by decide +kernel, by decide +kernel⟩
theorem n_law_high : Nm N_law (defScope Hd.s_law) 6 "high" := ⟨rfl, by decide +kernel, by decide +kernel, by decide +kernel⟩
theorem n_law_known : Nm N_law (defScope Hd.s_law) 7 "known" := ⟨rfl, by decide +kernel, by decide +kernel, by decide +kernel⟩
theorem l_law_known : Lc N_law (defScope Hd.s_law) 7 "known" := ⟨rfl, by decide +kernel⟩
theorem l_law_again : Lc N_law (defScope Hd.s_law) 9 "again" := ⟨rfl, by decide +kernel⟩
theorem n_law_found : Nm N_law (defScope Hd.s_law) 10 "found" := ⟨rfl, by decide +kernel, by decide +kernel, by decide +kernel⟩
theorem l_law_found : Lc N_law (defScope Hd.s_law) 10 "found" := ⟨rfl, by decide +kernel⟩
theorem n_law_time : Nm N_law (defScope Hd.s_law) 11 "time" := ⟨rfl, by decide +kernel, by decide +kernel, by decide +kernel⟩
theorem l_law_time : Lc N_law (defScope Hd.s_law) 11 "time" := ⟨rfl, by decide +kernel⟩
theorem b_law_0 (T : Hd.TT K mg h) : BodyD P w K mg base N_law "law" (defScope Hd.s_law) (foB (atB (foB (atB (defBody Hd.s_law) 1)) 5)) (He.ga K "law") 12 Cd.c_law_0 := fun cdv A outer s H E hr hgd tk po =>
  have hu := Room.units hr
  SB.cons (SS.setN nd_law l_law_found rfl rfl (Dn.SE.callP tk (hr.mono (j := 11) (by decide)) hgd (D_speeds_between T) rfl rfl (sp rfl) (bt rfl) (SA.cons (sp rfl) (SE.varN n_law_size) (SA.cons (sp rfl) (SE.varN n_law_observations) (SA.cons (sp rfl) (SE.varN n_law_low) (SA.cons (sp rfl) (SE.varN n_law_high) (SA.nil))))))) (SB.cons (SS.ite (ST.cmppN (ov_ne hu) rfl n_law_found (SV.pkN n_law_known)) (SB.cons (SS.ret (SE.bl)) (SB.nil)) (SB.nil)) (SB.cons (SS.expr rfl (SE.append rfl rfl rfl (sp rfl) (bt rfl) (SPl.nameN n_law_found) (SE.non))) (SB.nil)))
theorem b_law_1 (T : Hd.TT K mg h) : BodyD P w K mg base N_law "law" (defScope Hd.s_law) (foB (atB (defBody Hd.s_law) 1)) (He.ga K "law") 12 Cd.c_law_1 := fun cdv A outer s H E hr hgd tk po =>
  have hu := Room.units hr
  SB.cons (SS.setN nd_law l_law_size rfl rfl (SE.bn ov_add (SE.int) (SE.v (SE.callO tk (hr.mono (j := 1) (by decide)) hgd (D__law_draw T) rfl rfl (sp rfl) (bt rfl) (SR.oN (sp rfl) n_law_pool (SR.dd (sp rfl) (SE.int) (SR.nil))))))) (SB.cons (SS.setN nd_law l_law_observations rfl rfl (SE.callO tk (hr.mono (j := 3) (by decide)) hgd (D__law_observations T) rfl rfl (sp rfl) (bt rfl) (SR.oN (sp rfl) n_law_pool (SR.dd (sp rfl) (SE.varN n_law_size) (SR.dd (sp rfl) (SE.bn ov_sub (SE.callO tk (hr.mono (j := 1) (by decide)) hgd (D__law_draw T) rfl rfl (sp rfl) (bt rfl) (SR.oN (sp rfl) n_law_pool (SR.dd (sp rfl) (SE.int) (SR.nil)))) (SE.v (SE.int))) (SR.nil)))))) (SB.cons (SS.par2 rfl nd_law rfl rfl (by decide) rfl rfl rfl rfl (sp rfl) (sp rfl) (SE.bn ov_sub (SE.callO tk (hr.mono (j := 1) (by decide)) hgd (D__law_draw T) rfl rfl (sp rfl) (bt rfl) (SR.oN (sp rfl) n_law_pool (SR.dd (sp rfl) (SE.int) (SR.nil)))) (SE.v (SE.int))) (SE.bn ov_sub (SE.callO tk (hr.mono (j := 1) (by decide)) hgd (D__law_draw T) rfl rfl (sp rfl) (bt rfl) (SR.oN (sp rfl) n_law_pool (SR.dd (sp rfl) (SE.int) (SR.nil)))) (SE.v (SE.int)))) (SB.cons (SS.setLc (own := [("speed", 8)]) rfl nd_law rfl rfl (sw_true rfl rfl rfl rfl) (show BlkOk N_law (defScope Hd.s_law) _ _ from ⟨rfl, by decide +kernel, by decide +kernel, by decide +kernel, by decide +kernel⟩) (by decide) (fun _ => rfl) (SI.rng2 rfl (Hd.b_range T) ((sp rfl).trans (congrArg _ (sp rfl))) (sp rfl) (SA.cons (sp rfl) (SE.varN n_law_low) (SA.cons (sp rfl) (SE.bpN ov_add n_law_high (SE.v (SE.int))) (SA.nil)))) (fun _ _ _ _ _ => SGw.nameN nd_law ⟨rfl, rfl⟩ rfl (by decide)) (fun _ _ _ _ _ => STs.one (ST.tru (fun _ => rfl) (SE.v (Dn.SE.callP takesF (hr.mono (j := 1) (by decide)) hgd (D__law_fits T) rfl rfl (sp rfl) (bt rfl) (SA.cons (sp rfl) (SE.varN ⟨rfl, rfl, rfl, rfl⟩) (SA.cons (sp rfl) (SE.varN ⟨rfl, rfl, rfl, rfl⟩) (SA.cons (sp rfl) (SE.varN ⟨rfl, rfl, rfl, rfl⟩) (SA.nil)))))))) (fun _ _ _ _ _ => SE.varN ⟨rfl, rfl, rfl, rfl⟩)) (SB.cons (SS.ite (ST.cmpn (ov_ne hu) rfl (Dn.SE.callP tk (hr.mono (j := 9) (by decide)) hgd (D_count_speeds T) rfl rfl (sp rfl) (bt rfl) (SA.cons (sp rfl) (SE.varN n_law_size) (SA.cons (sp rfl) (SE.varN n_law_observations) (SA.cons (sp rfl) (SE.varN n_law_low) (SA.cons (sp rfl) (SE.varN n_law_high) (SA.nil)))))) (SE.v (SE.callB1 cv_len (Hd.b_len T) (by decide +kernel) rfl (by decide) rfl (sp rfl) (bt rfl) (SV.pkN n_law_known)))) (SB.cons (SS.ret (SE.bl)) (SB.nil)) (SB.nil)) (SB.cons (SS.for po rfl (fun _ => rfl) (SI.rng1 rfl (Hd.b_range T) (sp rfl) (SA.cons (sp rfl) (SE.int) (SA.nil))) (SG.nameN nd_law l_law_again rfl) ((b_law_0 T cdv A outer s H E hr hgd tk po))) (SB.cons (SS.setN nd_law l_law_time rfl rfl (SE.callO tk (hr.mono (j := 1) (by decide)) hgd (D__law_draw T) rfl rfl (sp rfl) (bt rfl) (SR.oN (sp rfl) n_law_pool (SR.dd (sp rfl) (SE.int) (SR.nil))))) (SB.cons (SS.ite (ST.cmpn (ov_ne hu) rfl (SE.callK tk (hr.mono (j := 11) (by decide)) hgd (DK_next_look T) rfl rfl (sp rfl) (bk rfl) (SA.cons (sp rfl) (SE.varN n_law_size) (SA.cons (sp rfl) (SE.varN n_law_observations) (SA.cons (sp rfl) (SE.varN n_law_low) (SA.cons (sp rfl) (SE.varN n_law_high) (SA.nil))))) (SE.varN n_law_time)) (SE.v (Dn.SE.callP tk (hr.mono (j := 1) (by decide)) hgd (D__law_look T) rfl rfl (sp rfl) (bt rfl) (SA.cons (sp rfl) (SE.varN n_law_size) (SA.cons (sp rfl) (SE.varN n_law_known) (SA.cons (sp rfl) (SE.varN n_law_time) (SA.nil))))))) (SB.cons (SS.ret (SE.bl)) (SB.nil)) (SB.nil)) (SB.cons (SS.ite (ST.cmpn (ov_ne hu) rfl (Dn.SE.callP tk (hr.mono (j := 11) (by decide)) hgd (D_next_look T) rfl rfl (sp rfl) (bt rfl) (SA.cons (sp rfl) (SE.varN n_law_size) (SA.cons (sp rfl) (SE.varN n_law_observations) (SA.cons (sp rfl) (SE.varN n_law_low) (SA.cons (sp rfl) (SE.varN n_law_high) (SA.nil)))))) (SE.v (Dn.SE.callP tk (hr.mono (j := 1) (by decide)) hgd (D__law_look T) rfl rfl (sp rfl) (bt rfl) (SA.cons (sp rfl) (SE.varN n_law_size) (SA.cons (sp rfl) (SE.varN n_law_known) (SA.cons (sp rfl) (SE.int) (SA.nil))))))) (SB.cons (SS.ret (SE.bl)) (SB.nil)) (SB.nil)) (SB.nil)))))))))
theorem b_law (T : Hd.TT K mg h) : BodyD P w K mg base N_law "law" (defScope Hd.s_law) (defBody Hd.s_law) (He.ga K "law") 12 Cd.c_law := fun cdv A outer s H E hr hgd tk po =>
  have hu := Room.units hr
  SB.cons (SS.setN nd_law l_law_pool rfl rfl (Dn.SE.callP tk (hr.mono (j := 1) (by decide)) hgd (D__law_pool T) rfl rfl (sp rfl) (bt rfl) (SA.cons (sp rfl) (SE.varN n_law_script) (SA.nil)))) (SB.cons (SS.for po rfl (fun _ => rfl) (SI.rng1 rfl (Hd.b_range T) (sp rfl) (SA.cons (sp rfl) (SE.int) (SA.nil))) (SG.nameN nd_law l_law_turn rfl) ((b_law_1 T cdv A outer s H E hr hgd tk po))) (SB.cons (SS.ret (SE.bl)) (SB.nil)))
end
end Wk

/-! evaluation of denotations by simp -/
namespace Dn
open PySem PySem.Spec PyProof.Rows L2
section
variable {α β : Type} {a : α} {e env : Ev} {c : XC} {fs : Fds} {t u : T} {x y z : D} {i j : Nat} {s s' : Slot} {d d1 d2 d3 : DE} {dv dv2 : Ev → Rs D}
@[simp] theorem e_bind_ok {f : α → Ev → Rs β} : (Rs.ok a e).bind f = f a e := rfl
@[simp] theorem e_bind_exc {f : α → Ev → Rs β} : (Rs.exc c fs e).bind f = .exc c fs e := rfl
@[simp] theorem e_bind_stuck {f : α → Ev → Rs β} : (Rs.stuck : Rs α).bind f = .stuck := rfl
@[simp] theorem e_bindD_ok {f : D → Ev → Rs β} : (Rs.ok t e).bindD f = f t.frz e := rfl
@[simp] theorem e_bindD_exc {f : D → Ev → Rs β} : (Rs.exc c fs e).bindD f = .exc c fs e := rfl
@[simp] theorem e_bindD_stuck {f : D → Ev → Rs β} : (Rs.stuck : Rs T).bindD f = .stuck := rfl
@[simp] theorem e_frz_d : (T.d x).frz = x := rfl
@[simp] theorem e_frz_lst {ds : List D} : (T.lst ds).frz = .list ds := rfl
@[simp] theorem e_frz_dict {ks : List Key} {ds : List D} : (T.dict ks ds).frz = .dict ks ds := rfl
@[simp] theorem e_frz_dictT {ks : List (List Key)} {ds : List D} : (T.dictT ks ds).frz = .dictT ks ds := rfl
@[simp] theorem e_frz_inst {C : Str} {ns : List Str} {ts : List T} : (T.inst C ns ts).frz = .inst C ns (frzL ts) := rfl
@[simp] theorem e_frzL_nil : frzL [] = [] := rfl
@[simp] theorem e_frzL_cons {ts : List T} : frzL (t :: ts) = t.frz :: frzL ts := rfl
@[simp] theorem e_getS_0 {r : Ev} : getS (s :: r) 0 = s := rfl
@[simp] theorem e_getS_s {r : Ev} : getS (s :: r) (i + 1) = getS r i := rfl
@[simp] theorem e_setS_0 {r : Ev} : setS (s :: r) 0 s' = s' :: r := rfl
@[simp] theorem e_setS_s {r : Ev} : setS (s :: r) (i + 1) s' = s :: setS r i s' := rfl
@[simp] theorem e_treeS_n : treeS .none = none := rfl
@[simp] theorem e_treeS_l : treeS (.loc t) = some t := rfl
@[simp] theorem e_treeS_p : treeS (.par t) = some t := rfl
@[simp] theorem e_reS_l : reS (.loc t) u = .loc u := rfl
@[simp] theorem e_reS_p : reS (.par t) u = .par u := rfl
@[simp] theorem e_isPar_l : isPar (.loc t) = false := rfl
@[simp] theorem e_isPar_n : isPar .none = false := rfl
@[simp] theorem e_isPar_p : isPar (.par t) = true := rfl
@[simp] theorem e_isD_d : isD (.d x) = true := rfl
@[simp] theorem e_isD_l {ds : List D} : isD (.lst ds) = false := rfl
@[simp] theorem e_isD_k {ks : List Key} {ds : List D} : isD (.dict ks ds) = false := rfl
@[simp] theorem e_isD_i {C : Str} {ns : List Str} {ts : List T} : isD (.inst C ns ts) = false := rfl
@[simp] theorem e_dC : dC x env = .ok (.d x) env := rfl
@[simp] theorem e_dVar : dVar i env = (match treeS (getS env i) with
  | some t => .ok (.d t.frz) (if isD t = true then env else setS env i (reS (getS env i) (.d t.frz)))
  | none => .stuck) := rfl
@[simp] theorem e_pk : pk i env = (match treeS (getS env i) with
  | some t => .ok t.frz env
  | none => .stuck) := rfl
@[simp] theorem e_frzD : frzD d env = (d env).bindD fun x env => .ok x env := rfl
@[simp] theorem e_ofO_s : ofO (some t) env = .ok t env := rfl
@[simp] theorem e_ofO_n : ofO none env = .stuck := rfl
@[simp] theorem e_ofD_s : ofD (some x) env = .ok (.d x) env := rfl
@[simp] theorem e_ofD_n : ofD none env = .stuck := rfl
@[simp] theorem e_ofB_s {b : Bool} : ofB (some b) env = .ok b env := rfl
@[simp] theorem e_ofL_s : ofL (some a) env = .ok a env := rfl
@[simp] theorem e_dBn {o : D → D → Option T} : dBn o d dv env = (d env).bindD fun x env => (dv env).bind fun y env => ofO (o x y) env := rfl
@[simp] theorem e_dBp {o : D → D → Option T} : dBp o i dv env = (pk i env).bind fun _ env => (dv env).bind fun y env => (pk i env).bind fun x env => ofO (o x y) env := rfl
@[simp] theorem e_dIx : dIx d dv env = (d env).bindD fun x env => (dv env).bind fun y env => ofD (ixD x y) env := rfl
@[simp] theorem e_dIxp : dIxp i dv env = (pk i env).bind fun _ env => (dv env).bind fun y env => (pk i env).bind fun x env => ofD (ixD x y) env := rfl
@[simp] theorem e_aB : aB d env = (d env).bind tB := rfl
@[simp] theorem e_tB {b : Bool} : tB (.d (.bool b)) env = .ok b env := rfl
@[simp] theorem e_dTru : dTru dv env = (dv env).bind fun x env => ofB (truD x) env := rfl
@[simp] theorem e_tru_b {b : Bool} : truD (.bool b) = some b := rfl
@[simp] theorem e_dAnd {b1 b2 : Ev → Rs Bool} : dAnd b1 b2 env = (b1 env).bind fun b env => if b = true then b2 env else .ok false env := rfl
@[simp] theorem e_dOr {b1 b2 : Ev → Rs Bool} : dOr b1 b2 env = (b1 env).bind fun b env => if b = true then .ok true env else b2 env := rfl
@[simp] theorem e_dNot {b1 : Ev → Rs Bool} : dNot b1 env = (b1 env).bind fun b env => .ok (!b) env := rfl
@[simp] theorem e_dAndV : dAndV d1 d2 env = (d1 env).bind fun t env => (tB t env).bind fun b env => if b = true then d2 env else .ok (.d (.bool false)) env := rfl
@[simp] theorem e_dOrV : dOrV d1 d2 env = (d1 env).bind fun t env => (tB t env).bind fun b env => if b = true then .ok (.d (.bool true)) env else d2 env := rfl
@[simp] theorem e_dNotV : dNotV d1 env = (d1 env).bind fun t env => (tB t env).bind fun b env => .ok (.d (.bool (!b))) env := rfl
@[simp] theorem e_dIf {b : Ev → Rs Bool} : dIf b d1 d2 env = (b env).bind fun b env => if b = true then d1 env else d2 env := rfl
@[simp] theorem e_dUn {o : D → Option T} : dUn o dv env = (dv env).bind fun x env => ofO (o x) env := rfl
@[simp] theorem e_dNil : dNil env = .ok [] env := rfl
@[simp] theorem e_dCons {ds : Ev → Rs (List D)} : dCons d1 ds env = (d1 env).bindD fun x env => (ds env).bind fun xs env => .ok (x :: xs) env := rfl
@[simp] theorem e_dTup {ds : Ev → Rs (List D)} : dTup ds env = (ds env).bind fun xs env => if xs.length ≤ sizeLine then .ok (.d (.tup xs)) env else .stuck := rfl
@[simp] theorem e_dLst {ds : Ev → Rs (List D)} : dLst ds env = (ds env).bind fun xs env => if xs.length ≤ sizeLine then .ok (.lst xs) env else .stuck := rfl
@[simp] theorem e_dB1 {o : D → Option T} : dB1 o dv env = (dv env).bind fun x env => ofO (o x) env := rfl
@[simp] theorem e_dBs {o : List D → Option T} {ds : Ev → Rs (List D)} : dBs o ds env = (ds env).bind fun x env => ofO (o x) env := rfl
@[simp] theorem e_dSeq {s1 s2 : DS} : dSeq s1 s2 env = (s1 env).bind fun w env => match w with
  | .nx => s2 env
  | w => .ok w env := rfl
@[simp] theorem e_dSkip : dSkip env = .ok .nx env := rfl
@[simp] theorem e_dNo : dNo env = .stuck := rfl
@[simp] theorem e_dNoE : dNoE env = .stuck := rfl
@[simp] theorem e_dSet : dSet i d env = (d env).bind fun t env => nxO (putS i t env) := rfl
@[simp] theorem e_putS : putS i t env = if isPar (getS env i) = true then none else some (setS env i (.loc t)) := rfl
@[simp] theorem e_nxO_s : nxO (some e) = .ok .nx e := rfl
@[simp] theorem e_nxO_n : nxO none = .stuck := rfl
@[simp] theorem e_dRet : dRet d env = (d env).bind fun t env => .ok (.rt t) env := rfl
@[simp] theorem e_dIte {b : Ev → Rs Bool} {s1 s2 : DS} : dIte b s1 s2 env = (b env).bind fun b env => if b = true then s1 env else s2 env := rfl
@[simp] theorem e_dExpr : dExpr d env = (d env).bind fun _ env => .ok .nx env := rfl
@[simp] theorem e_dPar2 : dPar2 i j d1 d2 env = (d1 env).bind fun t env => (d2 env).bind fun u env => nxO ((putS i t env).bind fun env => putS j u env) := rfl
@[simp] theorem e_dAsg {g : D → Ev → Option Ev} : dAsg g d env = (d env).bindD fun x env => nxO (g x env) := rfl
@[simp] theorem e_gNm : gNm i x env = putS i (.d x) env := rfl
@[simp] theorem e_gNil : gNil [] env = some env := rfl
@[simp] theorem e_gCons {g : D → Ev → Option Ev} {gs : List D → Ev → Option Ev} {xs : List D} : gCons g gs (x :: xs) env = (g x env).bind fun env => gs xs env := rfl
@[simp] theorem e_gTup {n : Nat} {gs : List D → Ev → Option Ev} {xs : List D} : gTup n gs (.tup xs) env = if xs.length = n then gs xs env else none := rfl
@[simp] theorem e_dCallP {F : Fn} {n : Nat} {dvs : List V} {ds : Ev → Rs (List D)} : dCallP F n dvs ds env = (ds env).bind fun xs env => callP F n dvs xs env := rfl
@[simp] theorem e_callP {F : Fn} {n : Nat} {dvs : List V} {xs : List D} : callP F n dvs xs env = if xs.length + dvs.length = n then (match F ((xs ++ dvs.map vD).map .d) with
  | .ok t _ => .ok t env
  | .exc c fs _ => .exc c fs env
  | .stuck => .stuck) else .stuck := rfl
@[simp] theorem e_vD_i {n : Int} : vD (.int n) = .int n := rfl
@[simp] theorem e_vD_n : vD .non = .none := rfl
@[simp] theorem e_vD_b {b : Bool} : vD (.bl b) = .bool b := rfl
@[simp] theorem e_vD_s {b : Str} : vD (.str b) = .str b := rfl
@[simp] theorem e_fnOf {m : List Bool} {n : Nat} {s : DS} {ts : List T} : fnOf m n s ts = fin (s (ev0 m ts n)) := rfl
@[simp] theorem e_fin_rt : fin (.ok (.rt t) env) = .ok t (backs env) := rfl
@[simp] theorem e_fin_nx : fin (.ok .nx env) = .ok (.d .none) (backs env) := rfl
@[simp] theorem e_fin_exc : fin (.exc c fs env) = .exc c fs (backs env) := rfl
@[simp] theorem e_fin_stuck : fin .stuck = .stuck := rfl
@[simp] theorem e_ev0_t {ms : List Bool} {ts : List T} {n : Nat} : ev0 (true :: ms) (t :: ts) (n + 1) = .par t :: ev0 ms ts n := rfl
@[simp] theorem e_ev0_f {ms : List Bool} {ts : List T} {n : Nat} : ev0 (false :: ms) (t :: ts) (n + 1) = .loc t :: ev0 ms ts n := rfl
@[simp] theorem e_ev0_n {n : Nat} : ev0 [] [] n = List.replicate n .none := rfl
@[simp] theorem e_backs_nil : backs [] = [] := rfl
@[simp] theorem e_backs_n {r : Ev} : backs (.none :: r) = backs r := rfl
@[simp] theorem e_backs_l {r : Ev} : backs (.loc t :: r) = backs r := rfl
@[simp] theorem e_backs_p {r : Ev} : backs (.par t :: r) = t :: backs r := rfl
/-! operators -/
@[simp] theorem e_add_i {a b : Int} : oAdd (.int a) (.int b) = some (.d (.int (a + b))) := rfl
@[simp] theorem e_sub_i {a b : Int} : oSub (.int a) (.int b) = some (.d (.int (a - b))) := rfl
@[simp] theorem e_sub_b {a b : Bool} : oSub (.bool a) (.bool b) = some (.d (.int ((if a = true then (1 : Int) else 0) - (if b = true then (1 : Int) else 0)))) := rfl
@[simp] theorem e_mul_i {a b : Int} : oMul (.int a) (.int b) = if mulOk a b = true then some (.d (.int (a * b))) else none := rfl
@[simp] theorem e_div_i {a b : Int} : oDiv (.int a) (.int b) = if divOk b = true then some (.d (.int (a.fdiv b))) else none := rfl
@[simp] theorem e_mod_i {a b : Int} : oMod (.int a) (.int b) = if b = 0 then none else some (.d (.int (a.fmod b))) := rfl
@[simp] theorem e_neg_i {a : Int} : oNeg (.int a) = some (.d (.int (-a))) := rfl
@[simp] theorem e_lt_i {a b : Int} : oLt (.int a) (.int b) = some (.d (.bool (decide (a < b)))) := rfl
@[simp] theorem e_le_i {a b : Int} : oLe (.int a) (.int b) = some (.d (.bool (decide (a ≤ b)))) := rfl
@[simp] theorem e_gt_i {a b : Int} : oGt (.int a) (.int b) = some (.d (.bool (decide (b < a)))) := rfl
@[simp] theorem e_ge_i {a b : Int} : oGe (.int a) (.int b) = some (.d (.bool (decide (b ≤ a)))) := rfl
@[simp] theorem e_eqD_i {a b : Int} : eqD (.int a) (.int b) = some (decide (a = b)) := by
  simp [eqD, D.py, SeqAt.shaped, PyData.canLay0, PyData.depth, PyData.eqv]
  exact Bool.eq_iff_iff.mpr (by simp)
@[simp] theorem e_eqD_t2 {a b c d : Int} : eqD (.tup [.int a, .int b]) (.tup [.int c, .int d]) = some (decide (a = c) && decide (b = d)) := by
  simp [eqD, D.py, pyL, SeqAt.shaped, PyData.canLay0, PyData.canLayAll0, PyData.depth, PyData.depthAll, PyData.eqv, PyData.eqvAll]
  rfl
@[simp] theorem e_oEq : oEq x y = (eqD x y).map fun b => .d (.bool b) := rfl
@[simp] theorem e_oNe : oNe x y = (eqD x y).map fun b => .d (.bool (!b)) := rfl
@[simp] theorem e_abs {n : Int} : oAbs (.int n) = some (.d (.int (if n < 0 then -n else n))) := rfl
@[simp] theorem e_len_l {ds : List D} : oLen (.list ds) = some (.d (.int ds.length)) := rfl
@[simp] theorem e_len_t {ds : List D} : oLen (.tup ds) = some (.d (.int ds.length)) := rfl
@[simp] theorem e_ix_t {ds : List D} {n : Int} : ixD (.tup ds) (.int n) = atI ds n := rfl
@[simp] theorem e_ix_l {ds : List D} {n : Int} : ixD (.list ds) (.int n) = atI ds n := rfl
@[simp] theorem e_at_0 {α : Type} {x : α} {r : List α} : atI (x :: r) 0 = some x := by
  have : ixN (x :: r).length 0 = some 0 := by unfold ixN; rw [if_pos (by decide), if_pos (by simp <;> omega)]; rfl
  unfold atI; rw [this]; rfl
@[simp] theorem e_at_1 {α : Type} {x y : α} {r : List α} : atI (x :: y :: r) 1 = some y := by
  have : ixN (x :: y :: r).length 1 = some 1 := by unfold ixN; rw [if_pos (by decide), if_pos (by simp <;> omega)]; rfl
  unfold atI; rw [this]; rfl
@[simp] theorem e_isa_int_none : isaD "int" .none = some false := by rfl
@[simp] theorem e_isa_int_bool {b : Bool} : isaD "int" (.bool b) = some true := by rfl
@[simp] theorem e_isa_int_int {n : Int} : isaD "int" (.int n) = some true := by rfl
@[simp] theorem e_isa_int_str {z : Str} : isaD "int" (.str z) = some false := by rfl
@[simp] theorem e_isa_int_tup {ds : List D} : isaD "int" (.tup ds) = some false := by rfl
@[simp] theorem e_isa_int_list {ds : List D} : isaD "int" (.list ds) = some false := by rfl
@[simp] theorem e_isa_int_dict {ks : List Key} {ds : List D} : isaD "int" (.dict ks ds) = some false := by rfl
@[simp] theorem e_isa_bool_none : isaD "bool" .none = some false := by rfl
@[simp] theorem e_isa_bool_bool {b : Bool} : isaD "bool" (.bool b) = some true := by rfl
@[simp] theorem e_isa_bool_int {n : Int} : isaD "bool" (.int n) = some false := by rfl
@[simp] theorem e_isa_bool_str {z : Str} : isaD "bool" (.str z) = some false := by rfl
@[simp] theorem e_isa_bool_tup {ds : List D} : isaD "bool" (.tup ds) = some false := by rfl
@[simp] theorem e_isa_bool_list {ds : List D} : isaD "bool" (.list ds) = some false := by rfl
@[simp] theorem e_isa_bool_dict {ks : List Key} {ds : List D} : isaD "bool" (.dict ks ds) = some false := by rfl
@[simp] theorem e_isa_str_none : isaD "str" .none = some false := by rfl
@[simp] theorem e_isa_str_bool {b : Bool} : isaD "str" (.bool b) = some false := by rfl
@[simp] theorem e_isa_str_int {n : Int} : isaD "str" (.int n) = some false := by rfl
@[simp] theorem e_isa_str_str {z : Str} : isaD "str" (.str z) = some true := by rfl
@[simp] theorem e_isa_str_tup {ds : List D} : isaD "str" (.tup ds) = some false := by rfl
@[simp] theorem e_isa_str_list {ds : List D} : isaD "str" (.list ds) = some false := by rfl
@[simp] theorem e_isa_str_dict {ks : List Key} {ds : List D} : isaD "str" (.dict ks ds) = some false := by rfl
@[simp] theorem e_isa_tuple_none : isaD "tuple" .none = some false := by rfl
@[simp] theorem e_isa_tuple_bool {b : Bool} : isaD "tuple" (.bool b) = some false := by rfl
@[simp] theorem e_isa_tuple_int {n : Int} : isaD "tuple" (.int n) = some false := by rfl
@[simp] theorem e_isa_tuple_str {z : Str} : isaD "tuple" (.str z) = some false := by rfl
@[simp] theorem e_isa_tuple_tup {ds : List D} : isaD "tuple" (.tup ds) = some true := by rfl
@[simp] theorem e_isa_tuple_list {ds : List D} : isaD "tuple" (.list ds) = some false := by rfl
@[simp] theorem e_isa_tuple_dict {ks : List Key} {ds : List D} : isaD "tuple" (.dict ks ds) = some false := by rfl
@[simp] theorem e_isa_list_none : isaD "list" .none = some false := by rfl
@[simp] theorem e_isa_list_bool {b : Bool} : isaD "list" (.bool b) = some false := by rfl
@[simp] theorem e_isa_list_int {n : Int} : isaD "list" (.int n) = some false := by rfl
@[simp] theorem e_isa_list_str {z : Str} : isaD "list" (.str z) = some false := by rfl
@[simp] theorem e_isa_list_tup {ds : List D} : isaD "list" (.tup ds) = some false := by rfl
@[simp] theorem e_isa_list_list {ds : List D} : isaD "list" (.list ds) = some true := by rfl
@[simp] theorem e_isa_list_dict {ks : List Key} {ds : List D} : isaD "list" (.dict ks ds) = some false := by rfl
@[simp] theorem e_isa_dict_none : isaD "dict" .none = some false := by rfl
@[simp] theorem e_isa_dict_bool {b : Bool} : isaD "dict" (.bool b) = some false := by rfl
@[simp] theorem e_isa_dict_int {n : Int} : isaD "dict" (.int n) = some false := by rfl
@[simp] theorem e_isa_dict_str {z : Str} : isaD "dict" (.str z) = some false := by rfl
@[simp] theorem e_isa_dict_tup {ds : List D} : isaD "dict" (.tup ds) = some false := by rfl
@[simp] theorem e_isa_dict_list {ds : List D} : isaD "dict" (.list ds) = some false := by rfl
@[simp] theorem e_isa_dict_dict {ks : List Key} {ds : List D} : isaD "dict" (.dict ks ds) = some true := by rfl
@[simp] theorem e_isaLs_none {Ts : List String} : isaLs .none Ts = isaL .none Ts := rfl
@[simp] theorem e_isaLs_bool {b : Bool} {Ts : List String} : isaLs (.bool b) Ts = isaL (.bool b) Ts := rfl
@[simp] theorem e_isaLs_int {n : Int} {Ts : List String} : isaLs (.int n) Ts = isaL (.int n) Ts := rfl
@[simp] theorem e_isaLs_str {z : Str} {Ts : List String} : isaLs (.str z) Ts = isaL (.str z) Ts := rfl
@[simp] theorem e_isaLs_tup {ds : List D} {Ts : List String} : isaLs (.tup ds) Ts = isaL (.tup ds) Ts := rfl
@[simp] theorem e_isaLs_list {ds : List D} {Ts : List String} : isaLs (.list ds) Ts = isaL (.list ds) Ts := rfl
@[simp] theorem e_isaLs_dict {ks : List Key} {ds : List D} {Ts : List String} : isaLs (.dict ks ds) Ts = isaL (.dict ks ds) Ts := rfl
@[simp] theorem e_isaL_nil : isaL x [] = some false := rfl
@[simp] theorem e_isaL_cons {T : String} {Ts : List String} : isaL x (T :: Ts) = (isaD T x).bind fun b => (isaL x Ts).map fun c => b || c := rfl
@[simp] theorem e_dIsa {T : String} : dIsa T dv env = (dv env).bind fun x env => match isaD T x with
  | some b => .ok (.d (.bool b)) env
  | none => .stuck := rfl
@[simp] theorem e_dIsaL {Ts : List String} : dIsaL Ts dv env = (dv env).bind fun x env => match isaLs x Ts with
  | some b => .ok (.d (.bool b)) env
  | none => .stuck := rfl
@[simp] theorem e_dChain {o o' : D → D → Option T} : dChain o o' d1 d2 dv env = (d1 env).bindD fun x env => (d2 env).bindD fun y env => chD o o' dv x y env := rfl
@[simp] theorem e_chD {o o' : D → D → Option T} : chD o o' dv x y env = (match o x y with
  | some (.d (.bool k)) => if k = true then (dv env).bind fun z env => ofO (o' y z) env else .ok (.d (.bool false)) env
  | _ => .stuck) := rfl
@[simp] theorem e_len_s {z : Str} : oLen (.str z) = if z.length ≤ sizeLine then some (.d (.int z.length)) else none := by
  show (if z.length ≤ sizeLine then some (z.length : Int) else none).map _ = _
  split <;> rfl
@[simp] theorem e_len_d {ks : List Key} {ds : List D} : oLen (.dict ks ds) = some (.d (.int ks.length)) := rfl
@[simp] theorem e_size : sizeLine = 16777216 := rfl
end
/-! loops, comprehensions -/
section
variable {α β ζ : Type} {env env1 env2 : Ev} {x : D} {xs : List D} {g : D → Ev → Option Ev} {b : DS} {i : Nat} {vs : List Nat}
@[simp] theorem e_dIt {d : DE} : dIt d env = (d env).bindD fun x env => ofL (itemsD x) env := rfl
@[simp] theorem e_items_l {ds : List D} : itemsD (.list ds) = some ds := rfl
@[simp] theorem e_items_t {ds : List D} : itemsD (.tup ds) = some ds := rfl
@[simp] theorem e_dFor {it : Ev → Rs (List D)} : dFor it g b env = (it env).bind fun xs env => forL g b xs env := rfl
@[simp] theorem e_clr_nil : clrO env [] = some env := rfl
@[simp] theorem e_clr_cons {v : Nat} : clrO env (v :: vs) = (clrO env vs).bind fun e => if isPar (getS e v) = true then none else some (setS e v .none) := rfl
@[simp] theorem e_okW : okW env vs = vs.all fun v => flatS (getS env v) := rfl
@[simp] theorem e_flat_n : flatS .none = true := rfl
@[simp] theorem e_flat_d {y : D} : flatS (.loc (.d y)) = true := rfl
@[simp] theorem e_rst_nil : rstO env1 [] env = env := rfl
@[simp] theorem e_rst_cons {v : Nat} : rstO env1 (v :: vs) env = rstO env1 vs (setS env v (getS env1 v)) := rfl
@[simp] theorem e_clrR {a : α} : clrR a vs env = (match clrO env vs with
  | some e => .ok a e
  | none => .stuck) := rfl
@[simp] theorem e_turnE {t : Ev → Rs Bool} {em : Ev → Rs ζ} : turnE vs g t em x env = (match g x env with
  | none => .stuck
  | some env1 => (t env1).bind fun b env => if b = true then (em env).bind fun y env => clrR (some y) vs env else clrR none vs env) := rfl
@[simp] theorem e_emD {d : DE} : emD d env = (d env).bindD fun y env => .ok y env := rfl
@[simp] theorem e_dYes : dYes env = .ok true env := rfl
@[simp] theorem e_dComp {N : Nat} {it : Ev → Rs (List D)} {tn : D → Ev → Rs (Option ζ)} {f : List ζ → T} : dComp N it vs tn f env = (it env).bind fun xs env => if xs.length < N ∧ okW env vs = true then (match clrO env vs with
  | some env1 => (compL tn xs env1).bind fun ys env2 => .ok (f ys) (rstO env vs env2)
  | none => .stuck) else .stuck := rfl
@[simp] theorem e_emI {d : DE} : emI d env = (d env).bindD fun y env => (match y with
  | .int i => .ok i env
  | _ => .stuck) := rfl
@[simp] theorem e_dSortSc {it : Ev → Rs (List D)} {tn : D → Ev → Rs (Option Int)} : dSortSc it vs tn env = (dComp 4000 it vs tn (fun ads => .lst ((usrt ads).map .int)) env).bind fun t env => (match t with
  | .lst ds => if ds.length < 64 then .ok (.lst ds) env else .stuck
  | _ => .stuck) := rfl
theorem compL_map {tn : D → Ev → Rs (Option ζ)} {f : α → ζ} {h : α → D} : ∀ {ys : List α}, (∀ y ∈ ys, tn (h y) env = .ok (some (f y)) env) → compL tn (ys.map h) env = .ok (ys.map f) env
  | [], _ => rfl
  | y :: ys, hy => by
    rw [List.map_cons, List.map_cons]
    unfold compL
    rw [hy y List.mem_cons_self]
    show ((compL tn (ys.map h) env).bind fun zs env => Rs.ok ((some (f y)).toList ++ zs) env) = _
    rw [compL_map fun z hz => hy z (List.mem_cons_of_mem _ hz)]
    rfl
theorem compL_filter {tn : D → Ev → Rs (Option ζ)} {f : α → ζ} {p : α → Bool} {h : α → D} : ∀ {ys : List α}, (∀ y ∈ ys, tn (h y) env = .ok (if p y = true then some (f y) else none) env) → compL tn (ys.map h) env = .ok ((ys.filter p).map f) env
  | [], _ => rfl
  | y :: ys, hy => by
    rw [List.map_cons]
    unfold compL
    rw [hy y List.mem_cons_self]
    show ((compL tn (ys.map h) env).bind fun zs env => Rs.ok ((if p y = true then some (f y) else none).toList ++ zs) env) = _
    rw [compL_filter fun z hz => hy z (List.mem_cons_of_mem _ hz)]
    cases q : p y with
    | true => rw [List.filter_cons_of_pos q]; rfl
    | false => rw [List.filter_cons_of_neg (by simp [q])]; rfl
@[simp] theorem e_for_nil : forL g b [] env = .ok .nx env := rfl
theorem for_step (h : g x env = some env1) (hb : b env1 = .ok .nx env2) : forL g b (x :: xs) env = forL g b xs env2 := by
  show (match g x env with | none => _ | some env1 => _) = _
  rw [h]; dsimp only; rw [hb]
theorem for_map {h : α → D} {st : β → Ev} {f : β → α → β} : ∀ {ys : List α} {s : β}, (∀ y ∈ ys, ∀ s : β, ∃ env1, g (h y) (st s) = some env1 ∧ b env1 = .ok .nx (st (f s y))) → forL g b (ys.map h) (st s) = .ok .nx (st (ys.foldl f s))
  | [], _, _ => rfl
  | y :: ys, s, hy => by
    obtain ⟨env1, h1, h2⟩ := hy y List.mem_cons_self s
    rw [List.map_cons, for_step h1 h2, for_map fun z hz => hy z (List.mem_cons_of_mem _ hz)]
    rfl
end
/-! ranges, bools -/
section
variable {env : Ev} {x : D}
theorem e_dRng {f : List D → Option (List D)} {ds : Ev → Rs (List D)} : dRng f ds env = (ds env).bind fun xs env => ofL (f xs) env := rfl
theorem rngL_range (lo : Int) : ∀ n : Nat, rngL lo n = (List.range n).map fun i : Nat => D.int (lo + i)
  | 0 => rfl
  | n + 1 => by
    rw [List.range_succ_eq_map, List.map_cons, List.map_map]
    unfold rngL
    rw [rngL_range (lo + 1) n]
    have e : ((List.range n).map fun i : Nat => D.int (lo + 1 + i)) = (List.range n).map ((fun i : Nat => D.int (lo + i)) ∘ Nat.succ) := List.map_congr_left fun i _ => by
      show D.int (lo + 1 + i) = D.int (lo + (i + 1 : Nat))
      congr 1; omega
    rw [e]; simp
theorem rngL_0 (n : Nat) : rngL 0 n = (List.range n).map fun i : Nat => D.int i := by
  rw [rngL_range]
  exact List.map_congr_left fun i _ => by rw [Int.zero_add]
theorem rng1_nat {n : Nat} (h : n < 2 ^ 62) : rng1D [.int n] = some ((List.range n).map fun i : Nat => D.int i) := by
  have e : rngOk (n : Int) = true := decide_eq_true (by omega)
  show (if rngOk (n : Int) = true then some (rngL 0 (n : Int).toNat) else none) = _
  rw [if_pos e, Int.toNat_natCast, rngL_0]
theorem dRng1 {n : Nat} {ds : Ev → Rs (List D)} {e1 : Ev} (h : ds env = .ok [.int n] e1) (hn : n < 2 ^ 62) : dRng rng1D ds env = .ok ((List.range n).map fun i : Nat => D.int i) e1 := by
  rw [e_dRng, h, e_bind_ok, rng1_nat hn]; rfl
theorem boolsD_map : ∀ bs : List Bool, boolsD (bs.map .bool) = some bs
  | [] => rfl
  | b :: bs => by
    show (boolsD (bs.map .bool)).map (b :: ·) = _
    rw [boolsD_map bs]; rfl
theorem all_map (bs : List Bool) : oAll (.list (bs.map .bool)) = some (.d (.bool (bs.all id))) := by
  show (boolsD (bs.map .bool)).map _ = _
  rw [boolsD_map]; rfl
theorem any_map' (bs : List Bool) : oAny (.list (bs.map .bool)) = some (.d (.bool (bs.any id))) := by
  show (boolsD (bs.map .bool)).map _ = _
  rw [boolsD_map]; rfl
theorem intsD_map : ∀ bs : List Int, intsD (bs.map .int) = some bs
  | [] => rfl
  | b :: bs => by
    show (intsD (bs.map .int)).map (b :: ·) = _
    rw [intsD_map bs]; rfl
theorem ixN_lt {n i : Nat} (h : i < n) : L2.ixN n (i : Int) = some i := by
  unfold L2.ixN; rw [if_pos (by omega), if_pos (by omega)]; simp
end
/-! places, instances, dicts -/
section
variable {env : Ev} {x y : D} {t u : T} {C C' f g : Str} {ns : List Str} {ts : List T} {ds : List D} {i : Nat} {pa : Path} {d : DE} {ks : List L2.Key}
@[simp] theorem e_getE : getE env i pa = (treeS (getS env i)).bind fun t => getP t pa := rfl
@[simp] theorem e_setE : setE env i pa u = (match treeS (getS env i) with
  | some t => setS env i (reS (getS env i) (setP t pa u))
  | none => env) := rfl
@[simp] theorem e_getP_nil : getP t [] = some t := by cases t <;> first | rfl | (rename_i x; cases x <;> rfl)
@[simp] theorem e_getP_i {r : Path} : getP (.inst C ns ts) ((C', f) :: r) = if C = C' then (fldL ns ts f).bind fun u => getP u r else none := rfl
@[simp] theorem e_getP_d {r : Path} : getP (.d (.inst C ns ds)) ((C', f) :: r) = if C = C' then (fldL ns ds f).bind fun x => getP (.d x) r else none := rfl
@[simp] theorem e_setP_nil : setP t [] u = u := by cases t <;> rfl
@[simp] theorem e_setP_i {r : Path} : setP (.inst C ns ts) ((C', f) :: r) u = (match fldL ns ts f with
  | some s => .inst C ns (setL ns ts f (setP s r u))
  | none => .inst C ns ts) := rfl
@[simp] theorem e_fld_cons {α : Type} {n : Str} {a : α} {r : List α} : fldL (n :: ns) (a :: r) f = if n = f then some a else fldL ns r f := rfl
@[simp] theorem e_fld_nil {α : Type} {r : List α} : fldL [] r f = none := rfl
@[simp] theorem e_setL_cons {α : Type} {n : Str} {a b : α} {r : List α} : setL (n :: ns) (a :: r) f b = if n = f then b :: r else a :: setL ns r f b := rfl
@[simp] theorem e_dPl : dPl i pa env = (match getE env i pa with
  | some t => .ok (.d t.frz) (if isD t = true then env else setE env i pa (.d t.frz))
  | none => .stuck) := rfl
@[simp] theorem e_pkP : pkP i pa env = (match getE env i pa with
  | some t => .ok t.frz env
  | none => .stuck) := rfl
@[simp] theorem e_dFld : dFld i pa C f d env = (d env).bind fun t env => nxO ((getE env i pa).bind fun u => (putFld C f t u).map fun u' => setE env i pa u') := rfl
@[simp] theorem e_putFld : putFld C f t (.inst C' ns ts) = if C' = C ∧ ns.length < 900 then some (.inst C' (putN ns f) (putL ns ts f t)) else none := rfl
@[simp] theorem e_putN : putN ns f = if f ∈ ns then ns else ns ++ [f] := rfl
@[simp] theorem e_putL : putL ns ts f t = if f ∈ ns then setL ns ts f t else ts ++ [t] := rfl
@[simp] theorem e_dItemQ {k : Ev → Option D} : dItemQ i pa k d env = (d env).bindD fun x env => nxO ((k env).bind fun y => (getE env i pa).bind fun t => (putT t y x).map fun u => setE env i pa u) := rfl
@[simp] theorem e_putT_d : putT (.dict ks ds) y x = if ks.length < 1000000 then (keyD y).map fun k => .dict (putKs ks k) (putDs ks ds k x) else none := rfl
@[simp] theorem e_keyD_s {z : Str} : keyD (.str z) = some (.inr z) := rfl
@[simp] theorem e_keyD_i {z : Int} : keyD (.int z) = some (.inl z) := rfl
@[simp] theorem e_dNewK : dNewK env = .ok (.dict [] []) env := rfl
@[simp] theorem e_dNewT : dNewT env = .ok (.dictT [] []) env := rfl
@[simp] theorem e_dItD {h : D → Option (List D)} : dItD h d env = (d env).bindD fun x env => ofL (h x) env := rfl
@[simp] theorem e_itm : itmD (.dict ks ds) = some (zipKD ks ds) := rfl
@[simp] theorem e_vals : valD (.dict ks ds) = some ds := rfl
theorem e_ixD_d : ixD (.dict ks ds) (.str f) = lookK ks ds (.inr f) := rfl
theorem zipKD_map {α : Type} {h : α → Str} {k : α → D} : ∀ rs : List α, zipKD (rs.map fun r => .inr (h r)) (rs.map k) = rs.map fun r => .tup [.str (h r), k r]
  | [] => rfl
  | r :: rs => by
    rw [List.map_cons, List.map_cons, List.map_cons]
    unfold zipKD
    rw [zipKD_map rs]; rfl
theorem lookK_map {α : Type} {h : α → Str} {k : α → D} : ∀ {rs : List α} {r : α}, (rs.map h).Nodup → r ∈ rs → lookK (rs.map fun r => (Sum.inr (h r) : L2.Key)) (rs.map k) (.inr (h r)) = some (k r)
  | r0 :: rs, r, nd, hm => by
    obtain ⟨n1, n2⟩ := List.nodup_cons.mp (show (h r0 :: rs.map h).Nodup from nd)
    rw [List.map_cons, List.map_cons]
    unfold lookK
    rcases List.mem_cons.mp hm with e | e
    · subst e; rw [if_pos rfl]
    · have : (Sum.inr (h r0) : L2.Key) ≠ .inr (h r) := fun z => n1 (by rw [Sum.inr.inj z]; exact List.mem_map_of_mem e)
      rw [if_neg this]
      exact lookK_map n2 e
theorem keysS_map {α : Type} {h : α → Str} : ∀ rs : List α, keysS (rs.map fun r => (Sum.inr (h r) : L2.Key)) = some (rs.map h)
  | [] => rfl
  | r :: rs => by
    show (keysS (rs.map fun r => (Sum.inr (h r) : L2.Key))).map (h r :: ·) = _
    rw [keysS_map rs]; rfl
theorem hasK_map {α : Type} {h : α → Str} {rs : List α} {n : Str} (hn : n ∉ rs.map h) : hasK (rs.map fun r => (Sum.inr (h r) : L2.Key)) (.inr n) = false := by
  unfold hasK
  rw [List.any_map, List.any_eq_false]
  intro r hr
  have : h r ≠ n := fun z => hn (z ▸ List.mem_map_of_mem hr)
  simp [this]
theorem srtS_id {xs : List Str} (h : xs.Pairwise fun a b => Mq.sle a b = true) : srtS xs = xs := (srtS_uniq (List.Perm.refl _) (Mq.pair_sorted h)).symm
end
/-! calls with own variables -/
section
variable {env : Ev} {x y : D} {t u b : T} {i : Nat} {F : Fn} {as : List RA} {bs : List T} {d : DE} {ds : Ev → Rs (List RA)} {ns : List D}
@[simp] theorem e_rNil : rNil env = .ok [] env := rfl
@[simp] theorem e_rD : rD d ds env = (d env).bindD fun x env => (ds env).bind fun xs env => .ok (.inl x :: xs) env := rfl
@[simp] theorem e_rO : rO i ds env = if (treeS (getS env i)).isSome = true then (ds env).bind fun xs env => .ok (.inr i :: xs) env else .stuck := rfl
@[simp] theorem e_dCallO {m : List Bool} {dvs : List L2.V} : dCallO m F dvs ds env = (ds env).bind fun as env => callO m F dvs as env := rfl
@[simp] theorem e_callO {m : List Bool} {dvs : List L2.V} : callO m F dvs as env = if maskR as ++ List.replicate dvs.length false = m ∧ (owns as).Nodup then (match fetch env as with
  | some ts => (match F (ts ++ (dvs.map vD).map .d) with
    | .ok t back => .ok t (putB env as back)
    | .exc c fs back => .exc c fs (putB env as back)
    | .stuck => .stuck)
  | none => .stuck) else .stuck := rfl
@[simp] theorem e_maskR_n : maskR [] = [] := rfl
@[simp] theorem e_maskR_l : maskR (.inl x :: as) = false :: maskR as := rfl
@[simp] theorem e_maskR_r : maskR (.inr i :: as) = true :: maskR as := rfl
@[simp] theorem e_owns_n : owns [] = [] := rfl
@[simp] theorem e_owns_l : owns (.inl x :: as) = owns as := rfl
@[simp] theorem e_owns_r : owns (.inr i :: as) = i :: owns as := rfl
@[simp] theorem e_fetch_n : fetch env [] = some [] := rfl
@[simp] theorem e_fetch_l : fetch env (.inl x :: as) = (fetch env as).map (.d x :: ·) := rfl
@[simp] theorem e_fetch_r : fetch env (.inr i :: as) = (treeS (getS env i)).bind fun t => (fetch env as).map (t :: ·) := rfl
@[simp] theorem e_putB_n : putB env [] bs = env := rfl
@[simp] theorem e_putB_l : putB env (.inl x :: as) bs = putB env as bs := rfl
@[simp] theorem e_putB_r : putB env (.inr i :: as) (b :: bs) = setS (putB env as bs) i (reS (getS (putB env as bs) i) b) := rfl
@[simp] theorem e_putT_l {k : Int} : putT (.lst ns) (.int k) x = (L2.ixN ns.length k).map fun j => .lst (ns.set j x) := rfl
@[simp] theorem e_ixN2_0 : L2.ixN 2 0 = some 0 := rfl
@[simp] theorem e_ixN2_1 : L2.ixN 2 1 = some 1 := rfl
@[simp] theorem e_pow {a n : Int} : oPow (.int a) (.int n) = if powOk a n = true then some (.d (.int (a ^ n.toNat))) else none := rfl
@[simp] theorem e_retV_l {env : Ev} (h : getS env i = .loc t) : dRetV i env = .ok (.rt t) (setS env i (.loc (.d .none))) := by unfold dRetV; rw [h]
end
section
variable {env : Ev} {x : D} {i : Nat} {o : D → T → Option T} {d : DE} {ds es : List D}
@[simp] theorem e_dMut : dMut o i d env = if isLst (getE env i []) = true then (d env).bindD fun x env => (match (getE env i []).bind (o x) with
    | some u => .ok (.d .none) (setE env i [] u)
    | none => .stuck) else .stuck := rfl
@[simp] theorem e_isLst : isLst (some (.lst ds)) = true := rfl
@[simp] theorem e_appT : appT x (.lst ds) = if ds.length < 1000000 then some (.lst (ds ++ [x])) else none := rfl
@[simp] theorem e_extT : extT (.list es) (.lst ds) = if ds.length + es.length < 1000000 then some (.lst (ds ++ es)) else none := rfl
end
section
variable {env : Ev} {x : D} {o : Option Int} {d : DE} {xs : List D} {lo hi : Ev → Rs (Option Int)}
@[simp] theorem e_dSl : dSl d lo hi env = (d env).bindD fun x env => (lo env).bind fun l env => (hi env).bind fun u env => ofO (sliceD l u x) env := rfl
@[simp] theorem e_oNo : oNo env = .ok none env := rfl
@[simp] theorem e_oSm : oSm d env = (d env).bindD fun x env => (match x with
  | .int i => .ok (some i) env
  | _ => .stuck) := rfl
@[simp] theorem e_dMk {C : Str} {F : Fn} {n : Nat} {dvs : List L2.V} {ds : Ev → Rs (List D)} : dMk C F n dvs ds env = (ds env).bind fun xs env => callM C F n dvs xs env := rfl
theorem callM_2 {C : Str} {F : Fn} {a b : D} {t : T} (h : F [.inst C [] [], .d a, .d b] = .ok (.d .none) [t]) : callM C F 2 [] [a, b] env = .ok t env := by
  show (match F [.inst C [] [], .d a, .d b] with | .ok (.d .none) [t] => _ | .exc c fs _ => _ | _ => _) = _
  rw [h]
end
theorem cut_1 (d : D) (ds : List D) : cutD (d :: ds) (some 1) none = ds := by
  have h1 : HT.sIx (d :: ds).length 0 (some 1) = 1 := by
    simp [HT.sIx]
    try omega
  have h2 : HT.sIx (d :: ds).length (d :: ds).length none = (d :: ds).length := by simp [HT.sIx]
  unfold cutD
  rw [h1, h2]
  simp
section
variable {env : Ev} {α : Type}
theorem comp2_map {tn : Nat → D → Ev → Rs (List D)} {f : α → List D} {h : α → D} : ∀ {ys : List α} {n : Nat}, (∀ y ∈ ys, (f y).length ≤ 20 ∧ ∀ n, n < 900000 → tn n (h y) env = .ok (f y) env) → n + 20 * ys.length < 900000 → comp2 tn n (ys.map h) env = .ok (ys.flatMap f) env
  | [], n, _, _ => rfl
  | y :: ys, n, hy, hn => by
    rw [List.length_cons] at hn
    obtain ⟨h1, h2⟩ := hy y List.mem_cons_self
    rw [List.map_cons]
    unfold comp2
    rw [h2 n (by omega)]
    show ((comp2 tn (n + (f y).length) (ys.map h) env).bind fun zs env => Rs.ok (f y ++ zs) env) = _
    rw [comp2_map (fun z hz => hy z (List.mem_cons_of_mem _ hz)) (by omega)]
    rfl
end
/-! while -/
theorem dWhile_stop {c : Ev → Rs Bool} {b : DS} {env env1 : Ev} (h : c env = .ok false env1) : dWhile c b env = .ok .nx env1 := dWhile_eq (n := 1) (by unfold loopN; rw [h])
theorem dWhile_step {c : Ev → Rs Bool} {b : DS} {env env1 env2 : Ev} (h : c env = .ok true env1) (hb : b env1 = .ok .nx env2) : dWhile c b env = dWhile c b env2 := by
  by_cases ex : ∃ r n, loopN c b n env2 = some r
  · obtain ⟨r, n, hr⟩ := ex
    rw [dWhile_eq hr]
    exact dWhile_eq (n := n + 1) (by unfold loopN; rw [h]; dsimp only; rw [hb]; exact hr)
  · rw [dWhile_none ex, dWhile_none]
    rintro ⟨r, n, hr⟩
    cases n with
    | zero => cases hr
    | succ n =>
      unfold loopN at hr
      rw [h] at hr
      dsimp only at hr
      rw [hb] at hr
      exact ex ⟨r, n, hr⟩
end Dn

/-! steps of denotations, one by one -/
namespace Dn
open PySem PySem.Spec PyProof.Rows L2
section
variable {α β ζ : Type} {env env1 env2 env3 env4 : Ev} {s1 s2 : DS} {d d1 d2 : DE} {dv : Ev → Rs D} {b : Bool} {bt : Ev → Rs Bool} {i n : Nat} {t u : T} {x y z w : D} {ws : List Nat} {g : D → Ev → Option Ev} {fw : Fw}
theorem seq_nx (h : s1 env = .ok .nx env1) : dSeq s1 s2 env = s2 env1 := by rw [e_dSeq, h, e_bind_ok]
theorem seq_rt (h : s1 env = .ok (.rt t) env1) : dSeq s1 s2 env = .ok (.rt t) env1 := by rw [e_dSeq, h, e_bind_ok]
theorem ite_t (h : bt env = .ok true env1) : dIte bt s1 s2 env = s1 env1 := by rw [e_dIte, h, e_bind_ok, if_pos rfl]
theorem ite_f (h : bt env = .ok false env1) : dIte bt s1 s2 env = s2 env1 := by rw [e_dIte, h, e_bind_ok, if_neg (by decide)]
theorem set_ok (h : d env = .ok t env1) (h2 : putS i t env1 = some env2) : dSet i d env = .ok .nx env2 := by rw [e_dSet, h, e_bind_ok, h2, e_nxO_s]
theorem expr_ok (h : d env = .ok t env1) : dExpr d env = .ok .nx env1 := by rw [e_dExpr, h, e_bind_ok]
theorem ret_ok (h : d env = .ok t env1) : dRet d env = .ok (.rt t) env1 := by rw [e_dRet, h, e_bind_ok]
theorem for_ok {it : Ev → Rs (List D)} {xs : List D} (h : it env = .ok xs env1) : dFor it g s1 env = forL g s1 xs env1 := by rw [e_dFor, h, e_bind_ok]
theorem it_ok {xs : List D} (h : d env = .ok t env1) (hi : itemsD t.frz = some xs) : dIt d env = .ok xs env1 := by rw [e_dIt, h, e_bindD_ok, hi, e_ofL_s]
theorem frz_ok (h : d env = .ok t env1) : frzD d env = .ok t.frz env1 := by rw [e_frzD, h, e_bindD_ok]
theorem cons_ok {ds : Ev → Rs (List D)} {xs : List D} (h : d env = .ok t env1) (h2 : ds env1 = .ok xs env2) : dCons d ds env = .ok (t.frz :: xs) env2 := by rw [e_dCons, h, e_bindD_ok, h2, e_bind_ok]
theorem call_ok {F : Fn} {dvs : List V} {ds : Ev → Rs (List D)} {xs : List D} (h : ds env = .ok xs env1) (h2 : callP F n dvs xs env1 = .ok t env1) : dCallP F n dvs ds env = .ok t env1 := by rw [e_dCallP, h, e_bind_ok, h2]
theorem callP_ok {F : Fn} {dvs : List V} {xs : List D} {bk : List T} (hl : xs.length + dvs.length = n) (h : F ((xs ++ dvs.map vD).map .d) = .ok t bk) : callP F n dvs xs env = .ok t env := by rw [e_callP, if_pos hl, h]
theorem b1_ok {o : D → Option T} (h : dv env = .ok x env1) (h2 : o x = some t) : dB1 o dv env = .ok t env1 := by rw [e_dB1, h, e_bind_ok, h2, e_ofO_s]
theorem bn_ok {o : D → D → Option T} (h : d env = .ok t env1) (h2 : dv env1 = .ok y env2) (h3 : o t.frz y = some u) : dBn o d dv env = .ok u env2 := by rw [e_dBn, h, e_bindD_ok, h2, e_bind_ok, h3, e_ofO_s]
theorem pk_ok (h : treeS (getS env i) = some t) : pk i env = .ok t.frz env := by rw [e_pk, h]
theorem bp_ok {o : D → D → Option T} {t' : T} (h0 : treeS (getS env i) = some t') (h2 : dv env = .ok y env1) (h : treeS (getS env1 i) = some t) (h3 : o t.frz y = some u) : dBp o i dv env = .ok u env1 := by rw [e_dBp, pk_ok h0, e_bind_ok, h2, e_bind_ok, pk_ok h, e_bind_ok, h3, e_ofO_s]
theorem eq_o (h : eqD x y = some b) : oEq x y = some (.d (.bool b)) := by rw [e_oEq, h]; rfl
theorem ne_o (h : eqD x y = some b) : oNe x y = some (.d (.bool (!b))) := by rw [e_oNe, h]; rfl
theorem aB_ok (h : d env = .ok (.d (.bool b)) env1) : aB d env = .ok b env1 := by rw [e_aB, h, e_bind_ok, e_tB]
theorem eq_ev (h1 : d env = .ok t env1) (h2 : dv env1 = .ok w env2) (h : eqD t.frz w = some b) : aB (dBn oEq d dv) env = .ok b env2 := aB_ok (bn_ok h1 h2 (eq_o h))
theorem ne_ev (h1 : d env = .ok t env1) (h2 : dv env1 = .ok w env2) (h : eqD t.frz w = some b) : aB (dBn oNe d dv) env = .ok (!b) env2 := aB_ok (bn_ok h1 h2 (ne_o h))
theorem ixp_ok {t' : T} (h0 : treeS (getS env i) = some t') (h2 : dv env = .ok y env1) (h1 : treeS (getS env1 i) = some t) (h : ixD t.frz y = some z) : dIxp i dv env = .ok (.d z) env1 := by rw [e_dIxp, pk_ok h0, e_bind_ok, h2, e_bind_ok, pk_ok h1, e_bind_ok, h, e_ofD_s]
theorem ix_ok (h0 : d env = .ok t env1) (h2 : dv env1 = .ok y env2) (h : ixD t.frz y = some z) : dIx d dv env = .ok (.d z) env2 := by rw [e_dIx, h0, e_bindD_ok, h2, e_bind_ok, h, e_ofD_s]
theorem lst_ok {ds : Ev → Rs (List D)} {xs : List D} (h : ds env = .ok xs env1) (hl : xs.length ≤ sizeLine) : dLst ds env = .ok (.lst xs) env1 := by rw [e_dLst, h, e_bind_ok, if_pos hl]
theorem tup_ok {ds : Ev → Rs (List D)} {xs : List D} (h : ds env = .ok xs env1) (hl : xs.length ≤ sizeLine) : dTup ds env = .ok (.d (.tup xs)) env1 := by rw [e_dTup, h, e_bind_ok, if_pos hl]
theorem meth_ev {C m : Str} {F : Fn} {ds : Ev → Rs (List D)} {a : D} {xs : List D} (h0 : d env = .ok (.d a) env1) (hs : ds env1 = .ok xs env2) (hi : instOk C m a = true) (hc : callP F n [] (a :: xs) env2 = .ok t env2) : dMethP C m F n [] d ds env = .ok t env2 := by
  unfold dMethP
  rw [h0, e_bindD_ok, e_frz_d, if_pos hi, hs, e_bind_ok, hc]
theorem turn_map {em : Ev → Rs ζ} {a : ζ} (hg : g x env = some env1) (hd : em env1 = .ok a env2) (hc : clrO env2 ws = some env3) : turnE ws g dYes em x env = .ok (some a) env3 := by
  rw [e_turnE, hg]
  dsimp only
  rw [e_dYes, e_bind_ok, if_pos rfl, hd, e_bind_ok, e_clrR, hc]
theorem turn_filter {em : Ev → Rs ζ} {a : ζ} (hg : g x env = some env1) (ht : bt env1 = .ok b env2) (hd : em env2 = .ok a env2) (hc : clrO env2 ws = some env3) : turnE ws g bt em x env = .ok (if b = true then some a else none) env3 := by
  rw [e_turnE, hg]
  dsimp only
  rw [ht, e_bind_ok]
  cases b with
  | true => rw [if_pos rfl, hd, e_bind_ok, e_clrR, hc]; rfl
  | false => rw [if_neg (by decide), e_clrR, hc]; rfl
theorem emD_ok (h : d env = .ok t env1) : emD d env = .ok t.frz env1 := by rw [e_emD, h, e_bindD_ok]
theorem emK_ok {k : Key} (h1 : d1 env = .ok t env1) (h2 : d2 env1 = .ok u env2) (hk : keyD t.frz = some k) : emK d1 d2 env = .ok (k, u.frz) env2 := by
  unfold emK
  rw [h1, e_bindD_ok, h2, e_bindD_ok, hk]
theorem comp_lc {it : Ev → Rs (List D)} {tn : D → Ev → Rs (Option D)} {xs ys : List D} (h1 : it env = .ok xs env1) (hl : xs.length < 1000000) (hw : okW env1 ws = true) (hc : clrO env1 ws = some env2) (hb : compL tn xs env2 = .ok ys env3) (hr : rstO env1 ws env3 = env4) : dLc it ws tn env = .ok (.lst ys) env4 := by
  show dComp 1000000 it ws tn .lst env = _
  rw [e_dComp, h1, e_bind_ok, if_pos ⟨hl, hw⟩, hc]
  dsimp only
  rw [hb, e_bind_ok, hr]
theorem comp_dc {it : Ev → Rs (List D)} {tn : D → Ev → Rs (Option (L2.Key × D))} {xs : List D} {ys : List (L2.Key × D)} (h1 : it env = .ok xs env1) (hl : xs.length < 1000000) (hw : okW env1 ws = true) (hc : clrO env1 ws = some env2) (hb : compL tn xs env2 = .ok ys env3) (hd : dictOf ys = t) (hr : rstO env1 ws env3 = env4) : dDc it ws tn env = .ok t env4 := by
  show dComp 1000000 it ws tn dictOf env = _
  rw [e_dComp, h1, e_bind_ok, if_pos ⟨hl, hw⟩, hc]
  dsimp only
  rw [hb, e_bind_ok, hd, hr]
theorem vals_ok {ks : List Key} {ds : List D} (h : d env = .ok t env1) (e : t.frz = .dict ks ds) : dListVals d env = .ok (.lst ds) env1 := by
  unfold dListVals
  rw [h, e_bindD_ok, e]
theorem mut_ok {o : D → T → Option T} (hl : isLst (getE env i []) = true) (h : d env = .ok t env1) (h2 : (getE env1 i []).bind (o t.frz) = some u) (h3 : setE env1 i [] u = env2) : dMut o i d env = .ok (.d .none) env2 := by
  rw [e_dMut, if_pos hl, h, e_bindD_ok, h2]
  dsimp only
  rw [h3]
theorem fn_rt {m : List Bool} {ts : List T} {bk : List T} (h : s1 (ev0 m ts n) = .ok (.rt t) env1) (hb : backs env1 = bk) : fnOf m n s1 ts = .ok t bk := by rw [e_fnOf, h, e_fin_rt, hb]
theorem add_l {xs ys : List D} (h : xs.length + ys.length ≤ 1000) : oAdd (.list xs) (.list ys) = some (.lst (xs ++ ys)) := by
  show (if xs.length + ys.length ≤ sizeLine then some (T.lst (xs ++ ys)) else none) = _
  rw [if_pos (by rw [e_size]; omega)]
/-! own instances -/
theorem vr {i : Nat} (h : getS env i = .loc (.d x)) : dVar i env = .ok (.d x) env := by rw [e_dVar, h]; simp
theorem vrp {i : Nat} (h : getS env i = .par (.d x)) : dVar i env = .ok (.d x) env := by rw [e_dVar, h]; simp
theorem callP_1 {F : Fn} {a : D} {bk : List T} (h : F [.d a] = .ok t bk) : callP F 1 [] [a] env = .ok t env := callP_ok rfl h
theorem nil_ok : dNil env = .ok [] env := rfl
theorem ar1 {i : Nat} (h : getS env i = .loc (.d x)) : dCons (dVar i) dNil env = .ok [x] env := cons_ok (vr h) rfl
theorem ar2 {i j : Nat} (h : getS env i = .loc (.d x)) (h2 : getS env j = .loc (.d y)) : dCons (dVar i) (dCons (dVar j) dNil) env = .ok [x, y] env := cons_ok (vr h) (ar1 h2)
theorem ar3 {i j k : Nat} (h : getS env i = .loc (.d x)) (h2 : getS env j = .loc (.d y)) (h3 : getS env k = .loc (.d z)) : dCons (dVar i) (dCons (dVar j) (dCons (dVar k) dNil)) env = .ok [x, y, z] env := cons_ok (vr h) (ar2 h2 h3)
theorem fn_nx {m : List Bool} {ts : List T} {bk : List T} (h : s1 (ev0 m ts n) = .ok .nx env1) (hb : backs env1 = bk) : fnOf m n s1 ts = .ok (.d .none) bk := by rw [e_fnOf, h, e_fin_nx, hb]
theorem callO_ok {m : List Bool} {F : Fn} {as : List RA} {ts bk : List T} (hm : maskR as = m) (hn : (owns as).Nodup) (hf : fetch env as = some ts) (hF : F ts = .ok t bk) (hp : putB env as bk = env1) : callO m F [] as env = .ok t env1 := by
  have e : ts ++ (([] : List V).map vD).map T.d = ts := List.append_nil _
  rw [e_callO, if_pos ⟨by simpa using hm, hn⟩, hf]
  dsimp only
  rw [e, hF]
  dsimp only
  rw [hp]
theorem dCallO_ok {m : List Bool} {F : Fn} {ds : Ev → Rs (List RA)} {as : List RA} (h : ds env = .ok as env1) (h2 : callO m F [] as env1 = .ok t env2) : dCallO m F [] ds env = .ok t env2 := by rw [e_dCallO, h, e_bind_ok, h2]
theorem methO_ok {C m : Str} {mk : List Bool} {F : Fn} {ds : Ev → Rs (List RA)} {as : List RA} (h0 : (treeS (getS env i)).map (instOkT C m) = some true) (h : ds env = .ok as env1) (h2 : callO mk F [] (.inr i :: as) env1 = .ok t env2) : dMethO C m mk F [] i ds env = .ok t env2 := by
  unfold dMethO
  rw [if_pos h0, h, e_bind_ok, h2]
theorem propO_ok {C : Str} {F : Fn} (h0 : (treeS (getS env i)).map (instT C) = some true) (h2 : callO [true] F [] [.inr i] env = .ok t env2) : dPropO C F i env = .ok t env2 := by
  unfold dPropO
  rw [if_pos h0, h2]; rfl
theorem lenOO_ok {C : Str} {F : Fn} {n : Nat} (h0 : (treeS (getS env i)).map (instT C) = some true) (h2 : callO [true] F [] [.inr i] env = .ok (.d (.int n)) env2) (hn : n < 1000000) : dLenOO C F i env = .ok (.d (.int n)) env2 := by
  unfold dLenOO
  rw [if_pos h0, h2]
  have e : noX (Rs.ok (T.d (.int (n : Int))) env2) = Rs.ok (T.d (.int n)) env2 := rfl
  rw [e, e_bind_ok]
  unfold tN
  dsimp only
  rw [if_pos (by omega)]
theorem rD_ok {ds : Ev → Rs (List RA)} {as : List RA} (h : d env = .ok t env1) (h2 : ds env1 = .ok as env2) : rD d ds env = .ok (.inl t.frz :: as) env2 := by rw [e_rD, h, e_bindD_ok, h2, e_bind_ok]
theorem rO_ok {ds : Ev → Rs (List RA)} {as : List RA} (h0 : (treeS (getS env i)).isSome = true) (h2 : ds env = .ok as env2) : rO i ds env = .ok (.inr i :: as) env2 := by rw [e_rO, if_pos h0, h2, e_bind_ok]
theorem ixQ_ok {f1 f2 : Ev → Option D} (h1 : f1 env = some x) (h2 : f2 env = some y) (h : ixD x y = some z) : dIxQ f1 f2 env = .ok (.d z) env := by
  unfold dIxQ
  rw [h1, h2]
  dsimp only
  rw [h, e_ofD_s]
theorem pop_ok {pa : Path} {ds : List D} (h : getE env i pa = some (.lst (ds ++ [x]))) (h2 : setE env i pa (.lst ds) = env1) : dPop i pa env = .ok (.d x) env1 := by
  unfold dPop
  rw [h]
  dsimp only
  have e : (ds ++ [x])[(ds ++ [x]).length - 1]? = some x := by simp
  rw [e]
  dsimp only
  rw [List.dropLast_concat, h2]
theorem appQ_ok {pa : Path} {f : Ev → Option D} {ds : List D} (h : f env = some x) (h2 : getE env i pa = some (.lst ds)) (hl : ds.length < 1000000) (h3 : setE env i pa (.lst (ds ++ [x])) = env1) : dAppQ i pa f env = .ok (.d .none) env1 := by
  unfold dAppQ
  rw [h, Option.bind_some, h2, Option.bind_some, e_appT, if_pos hl]
  dsimp only
  rw [h3]
theorem app_ok {ds : List D} {t' : T} (hg : getE env i [] = some t') (ht : isLst (some t') = true) (h : d env = .ok t env1) (h2 : getE env1 i [] = some (.lst ds)) (hl : ds.length < 1000000) (h3 : setE env1 i [] (.lst (ds ++ [t.frz])) = env2) : dMut appT i d env = .ok (.d .none) env2 :=
  mut_ok (by rw [hg]; exact ht) h (by rw [h2, Option.bind_some, e_appT, if_pos hl]) h3
theorem appTmp_ok {ds : List D} (h : d env = .ok (.lst ds) env1) (h2 : d2 env1 = .ok u env2) (hl : ds.length < 1000000) : dAppTmp d d2 env = .ok (.d .none) env2 := by
  unfold dAppTmp
  rw [h, e_bind_ok]
  dsimp only
  rw [h2, e_bindD_ok, if_pos hl]
theorem starK_ok {d3 : DE} {ks : List Key} {ds : List D} {k : Key} {w' : T} (h1 : d1 env = .ok t env1) (e : t.frz = .dict ks ds) (hl : ks.length ≤ 1000) (h2 : d2 env1 = .ok u env2) (h3 : d3 env2 = .ok w' env3) (hk : keyD u.frz = some k) : dStarK d1 d2 d3 env = .ok (.dict (putKs ks k) (putDs ks ds k w'.frz)) env3 := by
  unfold dStarK
  rw [h1, e_bindD_ok, e]
  dsimp only
  rw [if_pos hl, h2, e_bindD_ok, h3, e_bindD_ok, hk]
theorem star_ok {ds : Ev → Rs (List D)} {xs ys : List D} (h : d env = .ok t env1) (e : starD t.frz = some xs) (h2 : ds env1 = .ok ys env2) : dStar d ds env = .ok (xs ++ ys) env2 := by
  unfold dStar
  rw [h, e_bindD_ok, e]
  dsimp only
  rw [h2, e_bind_ok]
theorem mk_ok {C : Str} {F : Fn} {dvs : List V} {ds : Ev → Rs (List D)} {xs : List D} (h : ds env = .ok xs env1) (h2 : callM C F n dvs xs env1 = .ok t env2) : dMk C F n dvs ds env = .ok t env2 := by rw [e_dMk, h, e_bind_ok, h2]
theorem callM_1 {C : Str} {F : Fn} {a : D} (h : F [.inst C [] [], .d a] = .ok (.d .none) [t]) : callM C F 1 [] [a] env = .ok t env := by
  show (match F [.inst C [] [], .d a] with | .ok (.d .none) [t] => _ | .exc c fs _ => _ | _ => _) = _
  rw [h]
theorem tru_ok {w : D} (h : dv env = .ok w env1) (e : truD w = some b) : dTru dv env = .ok b env1 := by rw [e_dTru, h, e_bind_ok, e, e_ofB_s]
theorem not_ok (h : bt env = .ok b env1) : dNot bt env = .ok (!b) env1 := by rw [e_dNot, h, e_bind_ok]
theorem or_f {bt2 : Ev → Rs Bool} (h : bt env = .ok false env1) : dOr bt bt2 env = bt2 env1 := by rw [e_dOr, h, e_bind_ok, if_neg (by decide)]
theorem or_t {bt2 : Ev → Rs Bool} (h : bt env = .ok true env1) : dOr bt bt2 env = .ok true env1 := by rw [e_dOr, h, e_bind_ok, if_pos rfl]
theorem and_t {bt2 : Ev → Rs Bool} (h : bt env = .ok true env1) : dAnd bt bt2 env = bt2 env1 := by rw [e_dAnd, h, e_bind_ok, if_pos rfl]
theorem and_f {bt2 : Ev → Rs Bool} (h : bt env = .ok false env1) : dAnd bt bt2 env = .ok false env1 := by rw [e_dAnd, h, e_bind_ok, if_neg (by decide)]
theorem andV_t (h : d1 env = .ok (.d (.bool true)) env1) : dAndV d1 d2 env = d2 env1 := by rw [e_dAndV, h, e_bind_ok, e_tB, e_bind_ok, if_pos rfl]
theorem eqO_ok {C : Str} {F : Fn} {neg c : Bool} (h1 : d1 env = .ok t env1) (h2 : d2 env1 = .ok u env2) (hi : (instC C t.frz && instC C u.frz) = true) (h : F [.d t.frz, .d u.frz] = .ok (.d (.bool c)) []) : dEqO C F neg d1 d2 env = .ok (.d (.bool (xor neg c))) env2 := by
  unfold dEqO
  rw [h1, e_bindD_ok, h2, e_bindD_ok, if_pos hi]
  have e : callP F 2 [] [t.frz, u.frz] env2 = .ok (.d (.bool c)) env2 := callP_ok rfl h
  have q : callQ F 2 [] [t.frz, u.frz] env2 = .ok (.d (.bool c)) env2 := by unfold callQ; rw [e]
  rw [q, e_bind_ok]; rfl
theorem isO_ok {C : Str} (h : dv env = .ok x env1) (hi : instC C x = true) : dIsO C dv env = .ok (.d (.bool true)) env1 := by
  unfold dIsO
  rw [h, e_bind_ok, if_pos hi]
theorem par3T_ok {d3 : DE} {j l : Nat} {w' : T} (h1 : d1 env = .ok t env1) (h2 : d2 env1 = .ok u env2) (h3 : d3 env2 = .ok w' env3) (hp : ((putS i t env3).bind fun env => (putS j u env).bind fun env => putS l w' env) = some env4) : dPar3T i j l d1 d2 d3 env = .ok .nx env4 := by
  unfold dPar3T
  rw [h1, e_bind_ok, h2, e_bind_ok, h3, e_bind_ok, hp, e_nxO_s]
theorem par2_ok {j : Nat} (h1 : d1 env = .ok t env1) (h2 : d2 env1 = .ok u env2) (hp : ((putS i t env2).bind fun env => putS j u env) = some env3) : dPar2 i j d1 d2 env = .ok .nx env3 := by rw [e_dPar2, h1, e_bind_ok, h2, e_bind_ok, hp, e_nxO_s]
theorem un_ok {o : D → Option T} (h : dv env = .ok x env1) (h2 : o x = some t) : dUn o dv env = .ok t env1 := by rw [e_dUn, h, e_bind_ok, h2, e_ofO_s]
theorem fld_ok {pa : Path} {C f : Str} {u u' : T} (h : d env = .ok t env1) (h2 : getE env1 i pa = some u) (h3 : putFld C f t u = some u') (h4 : setE env1 i pa u' = env2) : dFld i pa C f d env = .ok .nx env2 := by
  rw [e_dFld, h, e_bind_ok, h2, Option.bind_some, h3, Option.map_some, e_nxO_s, h4]
end
end Dn

/-! equal data, dicts, sorted texts -/
namespace Dn
section
open L2
variable {env env1 env2 : Ev} {d : DE} {i : Nat} {pa : Path} {k : Ev → Option D} {t u u' : T} {y : D} {a b c e : D}
theorem itemQ_ok (h : d env = .ok t env1) (hk : k env1 = some y) (hg : getE env1 i pa = some u) (hp : putT u y t.frz = some u') (hs : setE env1 i pa u' = env2) : dItemQ i pa k d env = .ok .nx env2 := by
  rw [e_dItemQ, h, e_bindD_ok, hk, Option.bind_some, hg, Option.bind_some, hp, Option.map_some, hs, e_nxO_s]
theorem backs_none : ∀ {env : Ev}, (∀ s ∈ env, isPar s = false) → backs env = []
  | [], _ => rfl
  | .none :: r, h => backs_none (env := r) fun s hs => h s (List.mem_cons_of_mem _ hs)
  | .loc t :: r, h => backs_none (env := r) fun s hs => h s (List.mem_cons_of_mem _ hs)
  | .par t :: r, h => by have := h (.par t) List.mem_cons_self; cases this
theorem for_ret {g : D → Ev → Option Ev} {bd : DS} {x : D} {xs : List D} (h : g x env = some env1) (hb : bd env1 = .ok (.rt t) env2) : forL g bd (x :: xs) env = .ok (.rt t) env2 := by
  unfold forL
  rw [h]
  dsimp only
  rw [hb]
theorem at4_0 : atI [a, b, c, e] 0 = some a := rfl
theorem at4_1 : atI [a, b, c, e] 1 = some b := rfl
theorem at4_2 : atI [a, b, c, e] 2 = some c := rfl
theorem at4_3 : atI [a, b, c, e] 3 = some e := rfl
theorem retV_ok {x : D} (h : getS env i = .loc (.d x)) : dRetV i env = .ok (.rt (.d x)) (setS env i (.loc (.d .none))) := by unfold dRetV; simp [h]
end
open PySem PySem.Spec PyProof.Rows L2
section
variable {env : Ev} {x y : D} {d d1 d2 : DE}
@[simp] theorem e_emK : emK d1 d2 env = (d1 env).bindD fun x env => (d2 env).bindD fun y env => (match keyD x with
  | some k => Rs.ok (k, y) env
  | none => .stuck) := rfl
@[simp] theorem e_listVals : dListVals d env = (d env).bindD fun x env => (match x with
  | .dict _ ds => Rs.ok (.lst ds) env
  | _ => .stuck) := rfl
@[simp] theorem e_get1 : dGet1 d1 d2 env = (d1 env).bindD fun x env => (match x with
  | .dict ks ds => (d2 env).bindD fun y env => ofD (getE' ks ds y .none) env
  | _ => .stuck) := rfl
theorem var_d {i : Nat} (h : getS env i = .loc (.d x)) : dVar i env = .ok (.d x) env := by rw [e_dVar, h]; simp
theorem putAll_map {α : Type} {h : α → Str} {k : α → D} : ∀ (todo dn : List α), ((dn ++ todo).map h).Nodup → putAll (dn.map fun r => (Sum.inr (h r) : Key)) (dn.map k) (todo.map fun r => ((Sum.inr (h r) : Key), k r)) = ((dn ++ todo).map (fun r => (Sum.inr (h r) : Key)), (dn ++ todo).map k)
  | [], dn, _ => by rw [List.append_nil]; rfl
  | r :: todo, dn, nd => by
    have hn : h r ∉ dn.map h := fun z => by
      rw [List.map_append, List.map_cons] at nd
      exact (List.nodup_append.mp nd).2.2 _ z _ List.mem_cons_self rfl
    have hh := hasK_map (h := h) hn
    have ih := putAll_map (h := h) (k := k) todo (dn ++ [r]) (by rw [List.append_assoc]; exact nd)
    rw [List.append_assoc] at ih
    rw [List.map_cons]
    show putAll (putKs _ _) (putDs _ _ _ _) _ = _
    unfold putKs putDs
    rw [hh]
    rw [List.map_append, List.map_append] at ih
    exact ih
theorem dictOf_map {α : Type} {h : α → Str} {k : α → D} {rs : List α} (nd : (rs.map h).Nodup) : dictOf (rs.map fun r => ((Sum.inr (h r) : Key), k r)) = .dict (rs.map fun r => Sum.inr (h r)) (rs.map k) := by
  have := putAll_map (h := h) (k := k) rs [] nd
  unfold dictOf
  have e : putAll [] [] (rs.map fun r => ((Sum.inr (h r) : Key), k r)) = (rs.map (fun r => (Sum.inr (h r) : Key)), rs.map k) := this
  rw [e]
end
/-- data that == takes -/
def EqOk (n : Nat) (x : D) : Prop := ∃ p, x.py = some p ∧ p.canLay0 = true ∧ p.depth ≤ n
section
variable {n : Nat} {x y : D} {ds : List D}
theorem EqOk.up {m : Nat} (h : EqOk n x) (l : n ≤ m) : EqOk m x := let ⟨p, a, b, c⟩ := h; ⟨p, a, b, Nat.le_trans c l⟩
theorem EqOk.none : EqOk 0 .none := ⟨.none, rfl, by simp [PyData.canLay0], by simp [PyData.depth]⟩
theorem EqOk.int (i : Int) : EqOk 0 (.int i) := ⟨.int i, rfl, by simp [PyData.canLay0], by simp [PyData.depth]⟩
theorem EqOk.bool (i : Bool) : EqOk 0 (.bool i) := ⟨.bool i, rfl, by simp [PyData.canLay0], by simp [PyData.depth]⟩
theorem EqOk.str {z : Str} (h : (PyData.str z).canLay0 = true) : EqOk 0 (.str z) := ⟨.str z, rfl, h, by simp [PyData.depth]⟩
theorem eqOkL : ∀ {ds : List D}, (∀ d ∈ ds, EqOk n d) → ∃ ps, pyL ds = some ps ∧ PyData.canLayAll0 ps = true ∧ PyData.depthAll ps ≤ n
  | [], _ => ⟨[], rfl, by simp [PyData.canLayAll0], by simp [PyData.depthAll]⟩
  | d :: ds, h => by
    obtain ⟨p, a, b, c⟩ := h d List.mem_cons_self
    obtain ⟨ps, a2, b2, c2⟩ := eqOkL fun z hz => h z (List.mem_cons_of_mem _ hz)
    refine ⟨p :: ps, ?_, ?_, ?_⟩
    · unfold pyL; rw [a, a2]
    · simp [PyData.canLayAll0, b, b2]
    · simp [PyData.depthAll]; omega
theorem EqOk.list (h : ∀ d ∈ ds, EqOk n d) : EqOk (n + 1) (.list ds) := by
  obtain ⟨ps, a, b, c⟩ := eqOkL h
  exact ⟨.list ps, by unfold D.py; rw [a], by simp [PyData.canLay0, b], by simp [PyData.depth]; omega⟩
theorem EqOk.tup (h : ∀ d ∈ ds, EqOk n d) : EqOk (n + 1) (.tup ds) := by
  obtain ⟨ps, a, b, c⟩ := eqOkL h
  exact ⟨.tuple ps, by unfold D.py; rw [a], by simp [PyData.canLay0, b], by simp [PyData.depth]; omega⟩
theorem shaped_of {p : PyData} (h : p.canLay0 = true) (hd : p.depth ≤ 64) : SeqAt.shaped p = true := by unfold SeqAt.shaped; rw [h, decide_eq_true hd]; rfl
theorem eqD_refl (h : EqOk n x) (hn : n ≤ 64) : eqD x x = some true := by
  obtain ⟨p, a, b, c⟩ := h
  unfold eqD
  rw [a]
  dsimp only
  rw [shaped_of b (by omega)]
  simp only [Bool.and_self, if_true]
  rw [SeqAt.eqv_refl]
  exact b
theorem eqD_nil (h : EqOk n (.list (x :: ds))) (hn : n ≤ 64) : eqD (.list (x :: ds)) (.list []) = some false := by
  obtain ⟨p, a, b, c⟩ := h
  unfold eqD
  rw [a]
  have e : (D.list []).py = some (.list []) := rfl
  rw [e]
  dsimp only
  rw [shaped_of b (by omega), shaped_of (p := .list []) (by simp [PyData.canLay0, PyData.canLayAll0]) (by simp [PyData.depth, PyData.depthAll])]
  simp only [Bool.and_self, if_true]
  unfold D.py at a
  unfold pyL at a
  cases q : x.py with
  | none => rw [q] at a; cases a
  | some p1 =>
    cases q2 : pyL ds with
    | none => rw [q, q2] at a; cases a
    | some ps => rw [q, q2] at a; cases a; simp [PyData.eqv, PyData.eqvAll]
end
theorem eqD_strs {a b : Str} (ha : (PyData.str a).canLay0 = true) (hb : (PyData.str b).canLay0 = true) : eqD (.str a) (.str b) = some (decide (a = b)) := by
  unfold eqD
  have e1 : (D.str a).py = some (.str a) := rfl
  have e2 : (D.str b).py = some (.str b) := rfl
  rw [e1, e2]
  dsimp only
  rw [shaped_of ha (by simp [PyData.depth]), shaped_of hb (by simp [PyData.depth])]
  simp [PyData.eqv]; rfl
end Dn

/-! speeds that fit: plain numbers -/
namespace Mo
abbrev Ob := Int × Int
def Fits (L : Int) (os : List Ob) (v : Int) : Prop := ∀ o ∈ os, L ∣ o.1 * v - o.2
def dot : List Int → List Int → Int
  | f :: fs, x :: xs => f * x + dot fs xs
  | _, _ => 0
theorem dot_fits {L v : Int} : ∀ {fs : List Int} {os : List Ob}, Fits L os v → L ∣ v * dot fs (os.map (·.1)) - dot fs (os.map (·.2))
  | [], os, _ => ⟨0, by simp [dot]⟩
  | f :: fs, [], _ => ⟨0, by simp [dot]⟩
  | f :: fs, o :: os, h => by
    obtain ⟨a, ha⟩ := dot_fits (fs := fs) (os := os) fun o ho => h o (List.mem_cons_of_mem _ ho)
    obtain ⟨b, hb⟩ := h o List.mem_cons_self
    refine ⟨f * b + a, ?_⟩
    show v * (f * o.1 + dot fs (os.map (·.1))) - (f * o.2 + dot fs (os.map (·.2))) = _
    grind
theorem total_of {L v g f0 : Int} {fs : List Int} {os : List Ob} (hb : f0 * L + dot fs (os.map (·.1)) = g) (h : Fits L os v) : ∃ k, v * g - dot fs (os.map (·.2)) = L * k := by
  obtain ⟨a, ha⟩ := dot_fits (fs := fs) h
  exact ⟨v * f0 + a, by rw [← hb]; grind⟩
section
variable {L g m f0 v total : Int} {fs : List Int} {os : List Ob}
/-- nothing fits: the sum is no multiple -/
theorem no1 (hL : L = g * m) (hb : f0 * L + dot fs (os.map (·.1)) = g) (h : Fits L os v) : g ∣ dot fs (os.map (·.2)) := by
  obtain ⟨k, hk⟩ := total_of hb h
  exact ⟨v - m * k, by subst hL; grind⟩
theorem no2 (ht : ∀ o ∈ os, g ∣ o.1) (g0 : g ≠ 0) (hb : f0 * L + dot fs (os.map (·.1)) = g) (h : Fits L os v) : ∀ o ∈ os, L ∣ o.1 / g * dot fs (os.map (·.2)) - o.2 := fun o ho => by
  obtain ⟨k, hk⟩ := total_of hb h
  obtain ⟨q, hq⟩ := ht o ho
  obtain ⟨b, hb2⟩ := h o ho
  have e : o.1 / g = q := by rw [hq]; exact Int.mul_ediv_cancel_left q g0
  rw [e]
  refine ⟨b - q * k, ?_⟩
  have : dot fs (os.map (·.2)) = v * g - L * k := by omega
  rw [this]
  rw [hq] at hb2
  grind
theorem yes (hL : L = g * m) (g0 : g ≠ 0) (ht : ∀ o ∈ os, g ∣ o.1) (hb : f0 * L + dot fs (os.map (·.1)) = g) (hg : g ∣ total) (ha : ∀ o ∈ os, L ∣ o.1 / g * total - o.2) : Fits L os v ↔ m ∣ v - total / g := by
  obtain ⟨r, hr⟩ := hg
  have er : total / g = r := by rw [hr]; exact Int.mul_ediv_cancel_left r g0
  rw [er]
  have e1 : ∀ o ∈ os, L ∣ o.1 * r - o.2 := fun o ho => by
    obtain ⟨q, hq⟩ := ht o ho
    have e : o.1 / g = q := by rw [hq]; exact Int.mul_ediv_cancel_left q g0
    have := ha o ho
    rw [e, hr] at this
    obtain ⟨k, hk⟩ := this
    exact ⟨k, by rw [hq, ← hk]; grind⟩
  constructor
  · intro h
    have h2 : ∀ o ∈ os, L ∣ o.1 * (v - r) := fun o ho => by
      obtain ⟨a, h1⟩ := h o ho
      obtain ⟨b, h3⟩ := e1 o ho
      exact ⟨a - b, by grind⟩
    have h4 : ∀ {fs : List Int} {os : List Ob}, (∀ o ∈ os, L ∣ o.1 * (v - r)) → L ∣ dot fs (os.map (·.1)) * (v - r) := by
      intro fs
      induction fs with
      | nil => intro os _; exact ⟨0, by simp [dot]⟩
      | cons f fs ih =>
        intro os h
        cases os with
        | nil => exact ⟨0, by simp [dot]⟩
        | cons o os =>
          obtain ⟨a, h1⟩ := h o List.mem_cons_self
          obtain ⟨b, h3⟩ := ih (os := os) fun o ho => h o (List.mem_cons_of_mem _ ho)
          exact ⟨f * a + b, by show (f * o.1 + dot fs (os.map (·.1))) * (v - r) = _; grind⟩
    obtain ⟨c, hc⟩ := h4 (fs := fs) h2
    have h5 : g * (v - r) = g * (m * (c + f0 * (v - r))) := by
      have : g * (v - r) = (f0 * L + dot fs (os.map (·.1))) * (v - r) := by rw [hb]
      rw [this]; subst hL; grind
    exact ⟨c + f0 * (v - r), Int.eq_of_mul_eq_mul_left g0 h5⟩
  · rintro ⟨c, hc⟩ o ho
    obtain ⟨q, hq⟩ := ht o ho
    obtain ⟨b, h3⟩ := e1 o ho
    refine ⟨b + q * c, ?_⟩
    have : v = r + m * c := by omega
    rw [this]; subst hL
    rw [hq] at h3 ⊢
    grind
end
/-! the speeds between two bounds -/
theorem srt_uniq {xs ys : List Int} (h1 : xs.Pairwise (· < ·)) (h2 : ys.Pairwise (· < ·)) (h : ∀ k, k ∈ xs ↔ k ∈ ys) : xs = ys := Dn.sortedI_uniq h1 h2 h
def upTo (lo hi : Int) : List Int := (List.range (hi - lo).toNat).map fun i : Nat => lo + i
theorem upTo_lt (lo hi : Int) : (upTo lo hi).Pairwise (· < ·) := by
  unfold upTo
  rw [List.pairwise_map]
  exact List.pairwise_lt_range.imp fun h => by omega
theorem upTo_mem {lo hi k : Int} : k ∈ upTo lo hi ↔ lo ≤ k ∧ k < hi := by
  unfold upTo
  rw [List.mem_map]
  constructor
  · rintro ⟨i, hi, rfl⟩
    have := List.mem_range.mp hi
    omega
  · intro h
    exact ⟨(k - lo).toNat, List.mem_range.mpr (by omega), by omega⟩
def cnt (r m lo hi : Int) : Int := if lo > hi then 0 else (hi - r) / m - (lo - 1 - r) / m
def lst0 (r m lo : Int) : Int := lo + (r - lo) % m
def prog (a m : Int) (n : Nat) : List Int := (List.range n).map fun i : Nat => a + i * m
theorem prog_lt {a m : Int} (hm : 0 < m) (n : Nat) : (prog a m n).Pairwise (· < ·) := by
  unfold prog
  rw [List.pairwise_map]
  exact List.pairwise_lt_range.imp fun {x y} h => by
    have : (x : Int) * m < y * m := Int.mul_lt_mul_of_pos_right (by omega) hm
    omega
theorem lst0_eq {r m lo : Int} (hm : 0 < m) : lst0 r m lo = r + m * ((lo - 1 - r) / m + 1) := by
  have e := Int.mul_ediv_add_emod (lo - 1 - r) m
  have h0 := Int.emod_nonneg (lo - 1 - r) (by omega : m ≠ 0)
  have h1 := Int.emod_lt_of_pos (lo - 1 - r) hm
  have : (r - lo) % m = m - 1 - (lo - 1 - r) % m := by
    rw [Int.emod_eq_iff (by omega)]
    refine ⟨by omega, by omega, (lo - 1 - r) / m + 1, ?_⟩
    generalize (lo - 1 - r) / m = q at *
    generalize (lo - 1 - r) % m = t at *
    rw [Int.mul_add]; omega
  unfold lst0
  rw [this]
  generalize (lo - 1 - r) / m = q at *
  generalize (lo - 1 - r) % m = t at *
  rw [Int.mul_add]; omega
theorem cnt_nn {r m lo hi : Int} (hm : 0 < m) : 0 ≤ cnt r m lo hi := by
  unfold cnt
  split
  · exact Int.le_refl _
  · have := Int.ediv_le_ediv (a := lo - 1 - r) (b := hi - r) hm (by omega)
    omega
theorem known_eq {r m lo hi : Int} {p : Int → Bool} (hm : 0 < m) (hp : ∀ v, p v = true ↔ m ∣ v - r) : (upTo lo (hi + 1)).filter p = prog (lst0 r m lo) m (cnt r m lo hi).toNat := by
  refine srt_uniq ((upTo_lt _ _).sublist List.filter_sublist) (prog_lt hm _) fun k => ?_
  rw [List.mem_filter, upTo_mem, hp]
  unfold prog
  rw [List.mem_map]
  have n0 := cnt_nn (r := r) (lo := lo) (hi := hi) hm
  rw [lst0_eq hm]
  have e1 := Int.mul_ediv_add_emod (lo - 1 - r) m
  have h0 := Int.emod_nonneg (lo - 1 - r) (by omega : m ≠ 0)
  have h1 := Int.emod_lt_of_pos (lo - 1 - r) hm
  have e2 := Int.mul_ediv_add_emod (hi - r) m
  have h2 := Int.emod_nonneg (hi - r) (by omega : m ≠ 0)
  have h3 := Int.emod_lt_of_pos (hi - r) hm
  by_cases hlo : lo > hi
  · have c0 : cnt r m lo hi = 0 := by unfold cnt; rw [if_pos hlo]
    rw [c0]
    constructor
    · rintro ⟨⟨a, b⟩, _⟩; omega
    · rintro ⟨i, hi, _⟩; simp at hi
  · have c1 : cnt r m lo hi = (hi - r) / m - (lo - 1 - r) / m := by unfold cnt; rw [if_neg hlo]
    rw [c1] at n0 ⊢
    generalize (lo - 1 - r) / m = q at *
    generalize (hi - r) / m = u at *
    generalize (lo - 1 - r) % m = t at *
    generalize (hi - r) % m = z at *
    have key : ∀ j : Int, m * j < m * (j + 1) := fun j => by rw [Int.mul_add]; omega
    constructor
    · rintro ⟨⟨a, b⟩, c, hc⟩
      have cq : q < c := by
        by_cases z2 : q < c
        · exact z2
        · have : m * c ≤ m * q := Int.mul_le_mul_of_nonneg_left (by omega) (by omega)
          omega
      have cu : c ≤ u := by
        by_cases z2 : c ≤ u
        · exact z2
        · have : m * (u + 1) ≤ m * c := Int.mul_le_mul_of_nonneg_left (by omega) (by omega)
          rw [Int.mul_add] at this
          omega
      refine ⟨(c - q - 1).toNat, List.mem_range.mpr (by omega), ?_⟩
      have : (((c - q - 1).toNat : Nat) : Int) = c - q - 1 := by omega
      rw [this]
      have : k = r + m * c := by omega
      rw [this]; grind
    · rintro ⟨i, hi, rfl⟩
      have hi := List.mem_range.mp hi
      have hiu : q + 1 + (i : Int) ≤ u := by omega
      have l1 : m * (q + 1 + i) ≤ m * u := Int.mul_le_mul_of_nonneg_left hiu (by omega)
      have l2 : m * (q + 1) ≤ m * (q + 1 + i) := Int.mul_le_mul_of_nonneg_left (by omega) (by omega)
      have l3 : r + m * (q + 1) + i * m = r + m * (q + 1 + i) := by grind
      rw [l3]
      have l4 : m * (q + 1) = m * q + m := by rw [Int.mul_add, Int.mul_one]
      exact ⟨⟨by omega, by omega⟩, q + 1 + i, by omega⟩
end Mo

/-! different places: plain numbers -/
namespace Mo
theorem dvd_step {L g m s k : Int} (hL : L = g * m) (m0 : m ≠ 0) : L ∣ k * m * s ↔ g ∣ k * s := by
  subst hL
  constructor
  · rintro ⟨c, hc⟩
    exact ⟨c, Int.eq_of_mul_eq_mul_left m0 (by grind)⟩
  · rintro ⟨c, hc⟩
    exact ⟨c, by grind⟩
theorem gcd_step {g s k : Int} (g0 : 0 < g) : g ∣ k * s ↔ g / (Int.gcd s g : Int) ∣ k := by
  have h1 : g ∣ k * s ↔ g ∣ k * (Int.gcd g s : Int) := Int.dvd_mul_gcd_iff_dvd_mul.symm
  rw [h1, Int.gcd_comm g s]
  have hd : ((Int.gcd s g : Nat) : Int) ∣ g := Int.gcd_dvd_right ..
  have hp : (0 : Int) < (Int.gcd s g : Int) := by
    have : 0 < Int.gcd s g := Int.gcd_pos_of_ne_zero_right _ (by omega)
    omega
  generalize ((Int.gcd s g : Nat) : Int) = d at *
  obtain ⟨q, rfl⟩ := hd
  rw [Int.mul_ediv_cancel_left q (by omega)]
  constructor
  · rintro ⟨c, hc⟩
    exact ⟨c, Int.eq_of_mul_eq_mul_left (a := d) (by omega) (by grind)⟩
  · rintro ⟨c, hc⟩
    exact ⟨c, by rw [hc]; grind⟩
theorem range_pw {R : Nat → Nat → Prop} {n : Nat} : (List.range n).Pairwise R ↔ ∀ i j, i < j → j < n → R i j := by
  rw [List.pairwise_iff_getElem]
  constructor
  · intro h i j hij hj
    have := h i j (by simp; omega) (by simp; omega) hij
    simpa using this
  · intro h i j hi hj hij
    have hj2 : j < n := by simpa using hj
    simpa using h i j hij hj2
/-- step s tells the n speeds apart -/
theorem apart {L g m s a : Int} {n : Nat} (hL : L = g * m) (g0 : 0 < g) (m0 : 0 < m) : ((prog a m n).map fun v => v * s % L).Nodup ↔ (n : Int) ≤ g / (Int.gcd s g : Int) := by
  have L0 : L ≠ 0 := by rw [hL]; exact Int.ne_of_gt (Int.mul_pos g0 m0)
  unfold prog
  rw [List.map_map]
  unfold List.Nodup
  rw [List.pairwise_map, range_pw]
  have key : ∀ i j : Nat, i < j → ((((fun v => v * s % L) ∘ fun i : Nat => a + i * m) i = ((fun v => v * s % L) ∘ fun i : Nat => a + i * m) j) ↔ g / (Int.gcd s g : Int) ∣ ((j - i : Nat) : Int)) := fun i j hij => by
    show (a + i * m) * s % L = (a + j * m) * s % L ↔ _
    rw [← gcd_step g0, ← dvd_step hL (by omega)]
    rw [Int.emod_eq_emod_iff_emod_sub_eq_zero, ← Int.dvd_iff_emod_eq_zero]
    have e : ((j - i : Nat) : Int) = (j : Int) - i := by omega
    rw [e]
    have e2 : (a + i * m) * s - (a + j * m) * s = -((j - i) * m * s) := by grind
    rw [e2, Int.dvd_neg]
  have q0 : 0 < g / (Int.gcd s g : Int) := by
    have hd : ((Int.gcd s g : Nat) : Int) ∣ g := Int.gcd_dvd_right ..
    have hp : (0 : Int) < (Int.gcd s g : Int) := by
      have : 0 < Int.gcd s g := Int.gcd_pos_of_ne_zero_right _ (by omega)
      omega
    exact Int.ediv_pos_of_pos_of_dvd g0 (by omega) hd
  generalize g / (Int.gcd s g : Int) = q at *
  constructor
  · intro h
    by_cases z : (n : Int) ≤ q
    · exact z
    · exact absurd ((key 0 q.toNat (by omega)).mpr ⟨1, by omega⟩) (h 0 q.toNat (by omega) (by omega))
  · intro h i j hij hj hk
    have hd := (key i j hij).mp hk
    have := Int.le_of_dvd (by omega) hd
    omega
/-- the first number behind t with p -/
theorem first_of (p : Int → Prop) [DecidablePred p] : ∀ (n : Nat) (t : Int), p (t + 1 + n) → ∃ k : Nat, k ≤ n ∧ p (t + 1 + k) ∧ ∀ j : Nat, j < k → ¬ p (t + 1 + j)
  | 0, t, h => ⟨0, Nat.le_refl _, h, fun j hj => absurd hj (Nat.not_lt_zero _)⟩
  | n + 1, t, h => by
    by_cases h0 : p (t + 1)
    · exact ⟨0, Nat.zero_le _, by simpa using h0, fun j hj => absurd hj (Nat.not_lt_zero _)⟩
    · obtain ⟨k, h1, h2, h3⟩ := first_of p n (t + 1) (by
        have e : t + 1 + 1 + (n : Int) = t + 1 + ((n + 1 : Nat) : Int) := by omega
        rw [e]; exact h)
      refine ⟨k + 1, by omega, ?_, fun j hj => ?_⟩
      · have e : t + 1 + ((k + 1 : Nat) : Int) = t + 1 + 1 + k := by omega
        rw [e]; exact h2
      · cases j with
        | zero => simpa using h0
        | succ j =>
          have e : t + 1 + ((j + 1 : Nat) : Int) = t + 1 + 1 + j := by omega
          rw [e]; exact h3 j (by omega)
/-- some step tells them apart, if they are few enough -/
theorem step_exists {g t : Int} {n : Int} (g0 : 0 < g) (hn : n ≤ g) : ∃ k : Nat, (k : Int) < g ∧ n ≤ g / (Int.gcd (t + 1 + k) g : Int) := by
  refine ⟨((-t) % g).toNat, ?_, ?_⟩
  · have := Int.emod_lt_of_pos (-t) g0
    have := Int.emod_nonneg (-t) (by omega : g ≠ 0)
    omega
  · have e0 := Int.emod_nonneg (-t) (by omega : g ≠ 0)
    have e1 := Int.mul_ediv_add_emod (-t) g
    have e : t + 1 + (((-t) % g).toNat : Int) = g * (-((-t) / g)) + 1 := by
      have : ((((-t) % g).toNat : Nat) : Int) = (-t) % g := by omega
      rw [this]
      generalize (-t) / g = q at *
      generalize (-t) % g = z at *
      rw [Int.mul_neg]; omega
    rw [e]
    have g1 : Int.gcd (g * (-((-t) / g)) + 1) g = 1 := by
      rw [Int.gcd_mul_left_add_left]; simp
    rw [g1]
    simpa using hn
theorem step_none {g s : Int} {n : Int} (g0 : 0 < g) (hn : g < n) : ¬ n ≤ g / (Int.gcd s g : Int) := by
  intro h
  have : g / (Int.gcd s g : Int) ≤ g := Int.ediv_le_self _ (by omega)
  omega
end Mo

/-! observations: draws -/
namespace Po
open PySem Dn Cd Mo L2
def poolP (ns : List Int) (i c n : Int) : T := .lst [.list (ns.map .int), .int i, .int c, .int n]
theorem mulOk_of {a b : Int} {k l : Nat} (h1 : a.natAbs < 2 ^ k) (h2 : b.natAbs < 2 ^ l) (hk : 0 < k) (hl : 0 < l) (h : k + l ≤ 1000000) : mulOk a b = true := by
  have lg : ∀ {a k : Nat}, a < 2 ^ k → 0 < k → a.log2 < k := fun {a k} h hk => by
    by_cases z : a = 0
    · subst z; simpa using hk
    · exact (Nat.log2_lt z).mpr h
  have a1 := lg h1 hk
  have a2 := lg h2 hl
  unfold mulOk
  exact decide_eq_true (by omega)
theorem divOk_of {b : Int} {k : Nat} (h0 : b ≠ 0) (h : b.natAbs < 2 ^ k) (hk : 0 < k) (hk2 : k ≤ 9000) : divOk b = true := by
  have lg : b.natAbs.log2 < k := (Nat.log2_lt (by omega)).mpr h
  unfold divOk
  rw [decide_eq_true h0, decide_eq_true (by omega : b.natAbs.log2 < 9000)]
  rfl
theorem mul64 {a b : Int} (h1 : a.natAbs < 2 ^ 64) (h2 : b.natAbs < 2 ^ 200) : mulOk a b = true := mulOk_of h1 h2 (by decide) (by decide) (by decide)
theorem div64 {b : Int} (h0 : b ≠ 0) (h : b.natAbs < 2 ^ 64) : divOk b = true := divOk_of h0 h (by decide) (by decide)
theorem eqOk_ints (ns : List Int) : EqOk 1 (.list (ns.map .int)) := EqOk.list fun d hd => by
  obtain ⟨n, _, rfl⟩ := List.mem_map.mp hd
  exact .int n
/-- the cells that are drawn from -/
theorem cells_ok (ns : List Int) (hl : ns.length ≤ 63) : ∃ cs : List Int, cs ≠ [] ∧ cs.length ≤ 64 ∧ ∀ i c n m : Int, dBn oAdd (dIxp 0 (frzD (dC (.int 0)))) (frzD (dBn oMul (dLst (dCons (dC (.int 0)) (dNil))) (frzD (dB1 oInt (frzD (dBn oEq (dIxp 0 (frzD (dC (.int 0)))) (frzD (dLst (dNil))))))))) [.par (poolP ns i c n), .loc (.d (.int m)), .none, .none, .none, .none] = .ok (.lst (cs.map .int)) [.par (poolP ns i c n), .loc (.d (.int m)), .none, .none, .none, .none] := by
  have s1 : (1 : Nat) ≤ sizeLine := by decide
  cases ns with
  | nil =>
    refine ⟨[0], by simp, by simp, fun i c n m => ?_⟩
    have e : eqD (.list []) (.list []) = some true := eqD_refl (EqOk.list (n := 0) fun d hd => by cases hd) (by decide)
    have e2 : oInt (.bool true) = some (.d (.int 1)) := rfl
    have e3 : oMul (.list [.int 0]) (.int 1) = some (.lst [.int 0]) := rfl
    have e4 : oAdd (.list []) (.list [.int 0]) = some (.lst [.int 0]) := rfl
    have Z : dIxp 0 (frzD (dC (.int 0))) [.par (poolP [] i c n), .loc (.d (.int m)), .none, .none, .none, .none] = .ok (.d (.list [])) [.par (poolP [] i c n), .loc (.d (.int m)), .none, .none, .none, .none] := ixp_ok (t := poolP [] i c n) rfl rfl rfl at4_0
    have L : dLst (dCons (dC (.int 0)) (dNil)) [.par (poolP [] i c n), .loc (.d (.int m)), .none, .none, .none, .none] = .ok (.lst [.int 0]) [.par (poolP [] i c n), .loc (.d (.int m)), .none, .none, .none, .none] := rfl
    exact bn_ok Z (frz_ok (bn_ok L (frz_ok (b1_ok (frz_ok (bn_ok Z rfl (eq_o e))) e2)) e3)) e4
  | cons a as =>
    refine ⟨a :: as, by simp, Nat.le_succ_of_le hl, fun i c n m => ?_⟩
    have e : eqD (.list (.int a :: as.map .int)) (.list []) = some false := eqD_nil (eqOk_ints (a :: as)) (by decide)
    have e2 : oInt (.bool false) = some (.d (.int 0)) := rfl
    have e3 : oMul (.list [.int 0]) (.int 0) = some (.lst []) := rfl
    have e4 : oAdd (.list (.int a :: as.map .int)) (.list []) = some (.lst (.int a :: as.map .int)) := by
      show (if (D.int a :: as.map D.int).length + ([] : List D).length ≤ sizeLine then some (T.lst (_ ++ [])) else none) = _
      rw [if_pos (by rw [List.length_nil, List.length_cons, List.length_map, e_size]; rw [List.length_cons] at hl; omega), List.append_nil]
    have Z : dIxp 0 (frzD (dC (.int 0))) [.par (poolP (a :: as) i c n), .loc (.d (.int m)), .none, .none, .none, .none] = .ok (.d (.list (.int a :: as.map .int))) [.par (poolP (a :: as) i c n), .loc (.d (.int m)), .none, .none, .none, .none] := ixp_ok (t := poolP (a :: as) i c n) rfl rfl rfl at4_0
    have L : dLst (dCons (dC (.int 0)) (dNil)) [.par (poolP (a :: as) i c n), .loc (.d (.int m)), .none, .none, .none, .none] = .ok (.lst [.int 0]) [.par (poolP (a :: as) i c n), .loc (.d (.int m)), .none, .none, .none, .none] := rfl
    exact bn_ok Z (frz_ok (bn_ok L (frz_ok (b1_ok (frz_ok (bn_ok Z rfl (eq_o e))) e2)) e3)) e4
def PlOk (ns : List Int) (b : Nat) (t : T) : Prop := ∃ i c n : Int, t = poolP ns i c n ∧ 0 ≤ n ∧ n ≤ b
theorem draw_ok {ns : List Int} {b : Nat} {t : T} {m : Int} (h : PlOk ns b t) (hl : ns.length ≤ 63) (hb : b ≤ 1000000) (h1 : 1 ≤ m) (h2 : m < 1000) : ∃ v t', PlOk ns (b + 1) t' ∧ 0 ≤ v ∧ v < m ∧ F__law_draw [t, .d (.int m)] = .ok (.d (.int v)) [t'] := by
  obtain ⟨i, c, n, rfl, n0, n1⟩ := h
  have m0 : m ≠ 0 := by omega
  have d1 : divOk m = true := div64 m0 (by omega)
  have md : ∀ a : Int, oMod (.int a) (.int m) = some (.d (.int (a.fmod m))) := fun a => by rw [e_mod_i, if_neg m0]
  have dv : ∀ a : Int, oDiv (.int a) (.int m) = some (.d (.int (a.fdiv m))) := fun a => by rw [e_div_i, if_pos d1]
  have P1 : dItemQ 0 [] (fun _ => some (.int 3)) (dBn oAdd (dIxp 0 (frzD (dC (.int 3)))) (frzD (dC (.int 1)))) [.par (poolP ns i c n), .loc (.d (.int m)), .none, .none, .none, .none] = .ok .nx [.par (poolP ns i c (n + 1)), .loc (.d (.int m)), .none, .none, .none, .none] :=
    itemQ_ok (bn_ok (ixp_ok (t := poolP ns i c n) rfl rfl rfl at4_3) rfl e_add_i) rfl rfl rfl rfl
  have T2 : aB (dBn oGt (dIxp 0 (frzD (dC (.int 2)))) (frzD (dC (.int 0)))) [.par (poolP ns i c (n + 1)), .loc (.d (.int m)), .none, .none, .none, .none] = .ok (decide (0 < c)) [.par (poolP ns i c (n + 1)), .loc (.d (.int m)), .none, .none, .none, .none] := aB_ok (bn_ok (ixp_ok (t := poolP ns i c (n + 1)) rfl rfl rfl at4_2) rfl e_gt_i)
  unfold F__law_draw c__law_draw
  by_cases hc : 0 < c
  · rw [decide_eq_true hc] at T2
    refine ⟨c.fmod m, poolP ns i (c.fdiv m) (n + 1), ⟨_, _, _, rfl, by omega, by omega⟩, Int.fmod_nonneg_of_pos _ (by omega), Int.fmod_lt_of_pos _ (by omega), ?_⟩
    have A1 : dSet 2 (dBn oMod (dIxp 0 (frzD (dC (.int 2)))) (pk 1)) [.par (poolP ns i c (n + 1)), .loc (.d (.int m)), .none, .none, .none, .none] = .ok .nx [.par (poolP ns i c (n + 1)), .loc (.d (.int m)), .loc (.d (.int (c.fmod m))), .none, .none, .none] := set_ok (bn_ok (ixp_ok (t := poolP ns i c (n + 1)) rfl rfl rfl at4_2) rfl (md c)) rfl
    have A2 : dItemQ 0 [] (fun _ => some (.int 2)) (dBn oDiv (dIxp 0 (frzD (dC (.int 2)))) (pk 1)) [.par (poolP ns i c (n + 1)), .loc (.d (.int m)), .loc (.d (.int (c.fmod m))), .none, .none, .none] = .ok .nx [.par (poolP ns i (c.fdiv m) (n + 1)), .loc (.d (.int m)), .loc (.d (.int (c.fmod m))), .none, .none, .none] := itemQ_ok (bn_ok (ixp_ok (t := poolP ns i c (n + 1)) rfl rfl rfl at4_2) rfl (dv c)) rfl rfl rfl rfl
    exact fn_rt ((seq_nx P1).trans (seq_rt ((ite_t T2).trans ((seq_nx A1).trans ((seq_nx A2).trans (seq_rt (retV_ok rfl))))))) rfl
  · rw [decide_eq_false hc] at T2
    obtain ⟨cs, cne, cl, ce⟩ := cells_ok ns hl
    have l0 : 0 < cs.length := List.length_pos_iff.mpr cne
    have S3 := set_ok (i := 3) (env2 := [.par (poolP ns i c (n + 1)), .loc (.d (.int m)), .none, .loc (.lst (cs.map .int)), .none, .none]) (ce i c (n + 1) m) rfl
    have dl : (cs.length : Int) ≠ 0 := by omega
    obtain ⟨j, hj⟩ : ∃ j : Nat, i.fmod (cs.length : Int) = (j : Int) := ⟨(i.fmod (cs.length : Int)).toNat, by have := Int.fmod_nonneg_of_pos i (by omega : (0 : Int) < cs.length); omega⟩
    have hjl : j < cs.length := by have := Int.fmod_lt_of_pos i (by omega : (0 : Int) < cs.length); omega
    have at_ : ixD (.list (cs.map D.int)) (.int (j : Int)) = some (.int cs[j]) := by
      show L2.atI (cs.map D.int) (j : Int) = _
      unfold L2.atI
      rw [ixN_lt (by rw [List.length_map]; exact hjl), Option.bind_some, List.getElem?_map, List.getElem?_eq_getElem hjl]; rfl
    have ml : oMod (.int i) (.int (cs.length : Int)) = some (.d (.int j)) := by rw [e_mod_i, if_neg dl, hj]
    have ll : oLen (.list (cs.map D.int)) = some (.d (.int (cs.length : Int))) := by
      show some (T.d (.int ((cs.map D.int).length : Nat))) = _
      rw [List.length_map]
    generalize cs[j] = cell at at_
    have L3 : frzD (dB1 oLen (pk 3)) [.par (poolP ns i c (n + 1)), .loc (.d (.int m)), .none, .loc (.lst (cs.map .int)), .none, .none] = .ok (.int (cs.length : Int)) [.par (poolP ns i c (n + 1)), .loc (.d (.int m)), .none, .loc (.lst (cs.map .int)), .none, .none] := frz_ok (b1_ok (pk_ok (t := .lst (cs.map .int)) rfl) ll)
    have I1 : dIxp 0 (frzD (dC (.int 1))) [.par (poolP ns i c (n + 1)), .loc (.d (.int m)), .none, .loc (.lst (cs.map .int)), .none, .none] = .ok (.d (.int i)) [.par (poolP ns i c (n + 1)), .loc (.d (.int m)), .none, .loc (.lst (cs.map .int)), .none, .none] := ixp_ok (t := poolP ns i c (n + 1)) rfl rfl rfl at4_1
    have K4 : frzD (dBn oMod (dIxp 0 (frzD (dC (.int 1)))) (frzD (dB1 oLen (pk 3)))) [.par (poolP ns i c (n + 1)), .loc (.d (.int m)), .none, .loc (.lst (cs.map .int)), .none, .none] = .ok (.int (j : Int)) [.par (poolP ns i c (n + 1)), .loc (.d (.int m)), .none, .loc (.lst (cs.map .int)), .none, .none] := frz_ok (bn_ok I1 L3 ml)
    have S4 : dSet 4 (dIxp 3 (frzD (dBn oMod (dIxp 0 (frzD (dC (.int 1)))) (frzD (dB1 oLen (pk 3)))))) [.par (poolP ns i c (n + 1)), .loc (.d (.int m)), .none, .loc (.lst (cs.map .int)), .none, .none] = .ok .nx [.par (poolP ns i c (n + 1)), .loc (.d (.int m)), .none, .loc (.lst (cs.map .int)), .loc (.d (.int cell)), .none] := set_ok (ixp_ok (t := .lst (cs.map .int)) rfl K4 rfl at_) rfl
    have P5 : dItemQ 0 [] (fun _ => some (.int 1)) (dBn oAdd (dIxp 0 (frzD (dC (.int 1)))) (frzD (dC (.int 1)))) [.par (poolP ns i c (n + 1)), .loc (.d (.int m)), .none, .loc (.lst (cs.map .int)), .loc (.d (.int cell)), .none] = .ok .nx [.par (poolP ns (i + 1) c (n + 1)), .loc (.d (.int m)), .none, .loc (.lst (cs.map .int)), .loc (.d (.int cell)), .none] := itemQ_ok (bn_ok (ixp_ok (t := poolP ns i c (n + 1)) rfl rfl rfl at4_1) rfl e_add_i) rfl rfl rfl rfl
    have pw : frzD (dBn oPow (dC (.int 10)) (frzD (dC (.int 18)))) [.par (poolP ns (i + 1) c (n + 1)), .loc (.d (.int m)), .none, .loc (.lst (cs.map .int)), .loc (.d (.int cell)), .none] = .ok (.int 1000000000000000000) [.par (poolP ns (i + 1) c (n + 1)), .loc (.d (.int m)), .none, .loc (.lst (cs.map .int)), .loc (.d (.int cell)), .none] := rfl
    have T6 : aB (dBp oGe 4 (frzD (dBn oPow (dC (.int 10)) (frzD (dC (.int 18)))))) [.par (poolP ns (i + 1) c (n + 1)), .loc (.d (.int m)), .none, .loc (.lst (cs.map .int)), .loc (.d (.int cell)), .none] = .ok (decide (1000000000000000000 ≤ cell)) [.par (poolP ns (i + 1) c (n + 1)), .loc (.d (.int m)), .none, .loc (.lst (cs.map .int)), .loc (.d (.int cell)), .none] := aB_ok (bp_ok rfl pw rfl e_ge_i)
    by_cases hq : 1000000000000000000 ≤ cell
    · rw [decide_eq_true hq] at T6
      refine ⟨cell.fmod m, poolP ns (i + 1) (cell.fdiv m) (n + 1), ⟨_, _, _, rfl, by omega, by omega⟩, Int.fmod_nonneg_of_pos _ (by omega), Int.fmod_lt_of_pos _ (by omega), ?_⟩
      have A1 : dItemQ 0 [] (fun _ => some (.int 2)) (dBp oDiv 4 (pk 1)) [.par (poolP ns (i + 1) c (n + 1)), .loc (.d (.int m)), .none, .loc (.lst (cs.map .int)), .loc (.d (.int cell)), .none] = .ok .nx [.par (poolP ns (i + 1) (cell.fdiv m) (n + 1)), .loc (.d (.int m)), .none, .loc (.lst (cs.map .int)), .loc (.d (.int cell)), .none] := itemQ_ok (bp_ok rfl rfl rfl (dv cell)) rfl rfl rfl rfl
      have A2 : dBp oMod 4 (pk 1) [.par (poolP ns (i + 1) (cell.fdiv m) (n + 1)), .loc (.d (.int m)), .none, .loc (.lst (cs.map .int)), .loc (.d (.int cell)), .none] = .ok (.d (.int (cell.fmod m))) [.par (poolP ns (i + 1) (cell.fdiv m) (n + 1)), .loc (.d (.int m)), .none, .loc (.lst (cs.map .int)), .loc (.d (.int cell)), .none] := bp_ok rfl rfl rfl (md cell)
      exact fn_rt ((seq_nx P1).trans ((seq_nx ((ite_f T2).trans rfl)).trans ((seq_nx S3).trans ((seq_nx S4).trans ((seq_nx P5).trans (seq_rt ((ite_t T6).trans ((seq_nx A1).trans (seq_rt (ret_ok A2)))))))))) rfl
    · rw [decide_eq_false hq] at T6
      have mx0 := Int.fmod_nonneg_of_pos (cell + 7919 * (n + 1)) (by decide : (0 : Int) < 2147483647)
      have mx1 := Int.fmod_lt_of_pos (cell + 7919 * (n + 1)) (by decide : (0 : Int) < 2147483647)
      have m1 : mulOk 7919 (n + 1) = true := mul64 (by decide) (by omega)
      have u1 : oMul (.int 7919) (.int (n + 1)) = some (.d (.int (7919 * (n + 1)))) := by rw [e_mul_i, if_pos m1]
      have I3 : dIxp 0 (frzD (dC (.int 3))) [.par (poolP ns (i + 1) c (n + 1)), .loc (.d (.int m)), .none, .loc (.lst (cs.map .int)), .loc (.d (.int cell)), .none] = .ok (.d (.int (n + 1))) [.par (poolP ns (i + 1) c (n + 1)), .loc (.d (.int m)), .none, .loc (.lst (cs.map .int)), .loc (.d (.int cell)), .none] := ixp_ok (t := poolP ns (i + 1) c (n + 1)) rfl rfl rfl at4_3
      have mB : ∀ a : Int, oMod (.int a) (.int 2147483647) = some (.d (.int (a.fmod 2147483647))) := fun a => by rw [e_mod_i, if_neg (by decide)]
      have mC : ∀ a : Int, oMod (.int a) (.int 2147483629) = some (.d (.int (a.fmod 2147483629))) := fun a => by rw [e_mod_i, if_neg (by decide)]
      have A1 : dSet 5 (dBn oMod (dBp oAdd 4 (frzD (dBn oMul (dC (.int 7919)) (frzD (dIxp 0 (frzD (dC (.int 3)))))))) (frzD (dC (.int 2147483647)))) [.par (poolP ns (i + 1) c (n + 1)), .loc (.d (.int m)), .none, .loc (.lst (cs.map .int)), .loc (.d (.int cell)), .none] = .ok .nx [.par (poolP ns (i + 1) c (n + 1)), .loc (.d (.int m)), .none, .loc (.lst (cs.map .int)), .loc (.d (.int cell)), .loc (.d (.int ((cell + 7919 * (n + 1)).fmod 2147483647)))] :=
        set_ok (bn_ok (bp_ok (t := .d (.int cell)) rfl (frz_ok (bn_ok (t := .d (.int 7919)) rfl (frz_ok I3) u1)) rfl e_add_i) rfl (mB _)) rfl
      generalize (cell + 7919 * (n + 1)).fmod 2147483647 = mx at *
      have p5 : oPow (.int mx) (.int 5) = some (.d (.int (mx ^ 5))) := by
        have : powOk mx 5 = true := decide_eq_true ⟨by decide, by decide, by omega⟩
        show (if powOk mx 5 = true then some (T.d (.int (mx ^ (5 : Int).toNat))) else none) = _
        rw [if_pos this]; rfl
      have b5 : (mx ^ 5).natAbs < 2 ^ 160 := by
        rw [Int.natAbs_pow]
        have : mx.natAbs < 2 ^ 32 := by omega
        calc mx.natAbs ^ 5 < (2 ^ 32) ^ 5 := Nat.pow_lt_pow_left this (by decide)
          _ = 2 ^ 160 := by decide
      have m5 : mulOk (mx ^ 5) 48271 = true := mulOk_of b5 (by decide : (48271 : Int).natAbs < 2 ^ 20) (by decide) (by decide) (by decide)
      have d16 : ∀ a : Int, oDiv (.int a) (.int 16) = some (.d (.int (a.fdiv 16))) := fun a => by rw [e_div_i, if_pos (by decide)]
      have u5 : oMul (.int (mx ^ 5)) (.int 48271) = some (.d (.int (mx ^ 5 * 48271))) := by rw [e_mul_i, if_pos m5]
      generalize mx ^ 5 = w at *
      refine ⟨(((w * 48271).fmod 2147483629).fdiv 16).fmod m, poolP ns (i + 1) c (n + 1), ⟨_, _, _, rfl, by omega, by omega⟩, Int.fmod_nonneg_of_pos _ (by omega), Int.fmod_lt_of_pos _ (by omega), ?_⟩
      have A2 : dBn oMod (dBn oDiv (dBn oMod (dBn oMul (dBp oPow 5 (frzD (dC (.int 5)))) (frzD (dC (.int 48271)))) (frzD (dC (.int 2147483629)))) (frzD (dC (.int 16)))) (pk 1) [.par (poolP ns (i + 1) c (n + 1)), .loc (.d (.int m)), .none, .loc (.lst (cs.map .int)), .loc (.d (.int cell)), .loc (.d (.int mx))] = .ok (.d (.int ((((w * 48271).fmod 2147483629).fdiv 16).fmod m))) [.par (poolP ns (i + 1) c (n + 1)), .loc (.d (.int m)), .none, .loc (.lst (cs.map .int)), .loc (.d (.int cell)), .loc (.d (.int mx))] :=
        bn_ok (bn_ok (bn_ok (bn_ok (bp_ok (t := .d (.int mx)) rfl rfl rfl p5) rfl u5) rfl (mC _)) rfl (d16 _)) rfl (md _)
      exact fn_rt ((seq_nx P1).trans ((seq_nx ((ite_f T2).trans rfl)).trans ((seq_nx S3).trans ((seq_nx S4).trans ((seq_nx P5).trans ((seq_nx ((ite_f T6).trans rfl)).trans ((seq_nx A1).trans (seq_rt (ret_ok A2))))))))) rfl
end Po

/-! common divisors with factors -/
namespace Po
open PySem Dn Cd Mo
theorem rng_ok {f : List D → Option (List D)} {ds : Ev → Rs (List D)} {env env1 : Ev} {xs ys : List D} (h : ds env = .ok xs env1) (hf : f xs = some ys) : dRng f ds env = .ok ys env1 := by unfold dRng; rw [h, e_bind_ok, hf, e_ofL_s]
theorem cd_loop : ∀ (n : Nat) (a b : Int), b.natAbs < n → ∃ g : Int, g.natAbs = Int.gcd a b ∧
    dWhile (aB (dBp oNe 1 (frzD (dC (.int 0))))) c_common_divisor_0 [.loc (.d (.int a)), .loc (.d (.int b))] = .ok .nx [.loc (.d (.int g)), .loc (.d (.int 0))]
  | 0, a, b, h => by omega
  | n + 1, a, b, h => by
    by_cases hb : b = 0
    · subst hb
      exact ⟨a, by simp, dWhile_stop (by simp)⟩
    · have hm := Mq.fmod_abs a hb
      obtain ⟨g, hg, e⟩ := cd_loop n b (a.fmod b) (by omega)
      refine ⟨g, ?_, ?_⟩
      · rw [hg, Mq.gcd_step]
      · rw [← e]
        exact dWhile_step (env1 := [.loc (.d (.int a)), .loc (.d (.int b))]) (by simp [hb]) (by simp [c_common_divisor_0, hb])
theorem common_divisor (a b : Int) : F_common_divisor [.d (.int a), .d (.int b)] = .ok (.d (.int (Int.gcd a b))) [] := by
  obtain ⟨g, hg, e⟩ := cd_loop _ a b (Nat.lt_succ_self _)
  simp [F_common_divisor, m_common_divisor, c_common_divisor, e]
  omega
abbrev t3 (a b c : Int) : D := .tup [.int a, .int b, .int c]
abbrev eX (a b : Int) (o n : D) (s4 : Slot) : Ev := [.loc (.d (.int a)), .loc (.d (.int b)), .loc (.d o), .loc (.d n), s4, .none, .none, .none]
theorem natAbs_step {x y q : Int} {k : Nat} (hx : x.natAbs < 2 ^ k) (hy : y.natAbs < 2 ^ k) (h0 : 0 ≤ q) (h1 : q < 128) : (x - q * y).natAbs < 2 ^ (k + 8) := by
  have a1 : (q * y).natAbs ≤ 128 * y.natAbs := by
    rw [Int.natAbs_mul]
    exact Nat.mul_le_mul_right _ (by omega)
  have : 2 ^ (k + 8) = 2 ^ k * 256 := by rw [Nat.pow_add]
  omega
theorem ext_step {a b o0 o1 o2 n0 n1 n2 : Int} {k : Nat} {s4 : Slot} (h4 : isPar s4 = false) (p0 : 0 < n0) (l0 : n0 < 128) (q0 : 0 ≤ o0) (q1 : o0 < 128) (k1 : n1.natAbs < 2 ^ k) (k2 : n2.natAbs < 2 ^ k) (hk : 0 < k) (hk2 : k ≤ 900000) :
    c_extended_divisor_0 (eX a b (t3 o0 o1 o2) (t3 n0 n1 n2) s4) = .ok .nx (eX a b (t3 n0 n1 n2) (t3 (o0 - o0.fdiv n0 * n0) (o1 - o0.fdiv n0 * n1) (o2 - o0.fdiv n0 * n2)) (.loc (.d (.int (o0.fdiv n0))))) := by
  have dv : oDiv (.int o0) (.int n0) = some (.d (.int (o0.fdiv n0))) := by rw [e_div_i, if_pos (div64 (by omega) (by omega))]
  have e := Int.fdiv_eq_ediv_of_nonneg o0 (Int.le_of_lt p0)
  have f0 : 0 ≤ o0.fdiv n0 := by rw [e]; exact Int.ediv_nonneg q0 (Int.le_of_lt p0)
  have f1 : o0.fdiv n0 < 128 := by rw [e]; exact Int.lt_of_le_of_lt (Int.ediv_le_self _ q0) q1
  have S1 : dSet 4 (dBn oDiv (dIxp 2 (frzD (dC (.int 0)))) (frzD (dIxp 3 (frzD (dC (.int 0)))))) (eX a b (t3 o0 o1 o2) (t3 n0 n1 n2) s4) = .ok .nx (eX a b (t3 o0 o1 o2) (t3 n0 n1 n2) (.loc (.d (.int (o0.fdiv n0))))) :=
    set_ok (bn_ok (ixp_ok (t := .d (t3 o0 o1 o2)) rfl rfl rfl e_at_0) (frz_ok (ixp_ok (t := .d (t3 n0 n1 n2)) rfl rfl rfl e_at_0)) dv) (by simp [h4])
  generalize o0.fdiv n0 = q at *
  have ml : ∀ z : Int, z.natAbs < 2 ^ k ∨ z.natAbs < 2 ^ 8 → oMul (.int q) (.int z) = some (.d (.int (q * z))) := fun z hz => by
    rw [e_mul_i, if_pos]
    rcases hz with hz | hz
    · exact mulOk_of (k := 8) (by omega) hz (by decide) hk (by omega)
    · exact mulOk_of (k := 8) (l := 8) (by omega) hz (by decide) (by decide) (by decide)
  have Z : dRng (zipD true) (dCons (dVar 2) (dCons (dVar 3) (dNil))) (eX a b (t3 o0 o1 o2) (t3 n0 n1 n2) (.loc (.d (.int q)))) = .ok ([(o0, n0), (o1, n1), (o2, n2)].map fun p : Int × Int => D.tup [.int p.1, .int p.2]) (eX a b (t3 o0 o1 o2) (t3 n0 n1 n2) (.loc (.d (.int q)))) :=
    rng_ok (ar2 (x := t3 o0 o1 o2) (y := t3 n0 n1 n2) rfl rfl) rfl
  have M : ∀ p ∈ [(o0, n0), (o1, n1), (o2, n2)], turnD [5, 6] (gTup 2 (gCons (gNm 5) (gCons (gNm 6) (gNil)))) (dYes) (dBp oSub 5 (frzD (dBp oMul 4 (pk 6)))) (D.tup [.int p.1, .int p.2]) (eX a b (t3 o0 o1 o2) (t3 n0 n1 n2) (.loc (.d (.int q)))) = .ok (some (D.int (p.1 - q * p.2))) (eX a b (t3 o0 o1 o2) (t3 n0 n1 n2) (.loc (.d (.int q)))) := fun p hp => by
    have mz : oMul (.int q) (.int p.2) = some (.d (.int (q * p.2))) := by
      simp only [List.mem_cons, List.not_mem_nil, or_false] at hp
      rcases hp with rfl | rfl | rfl
      · exact ml _ (.inr (by show n0.natAbs < _; omega))
      · exact ml _ (.inl k1)
      · exact ml _ (.inl k2)
    have K : frzD (dBp oMul 4 (pk 6)) [.loc (.d (.int a)), .loc (.d (.int b)), .loc (.d (t3 o0 o1 o2)), .loc (.d (t3 n0 n1 n2)), .loc (.d (.int q)), .loc (.d (.int p.1)), .loc (.d (.int p.2)), .none] = .ok (.int (q * p.2)) [.loc (.d (.int a)), .loc (.d (.int b)), .loc (.d (t3 o0 o1 o2)), .loc (.d (t3 n0 n1 n2)), .loc (.d (.int q)), .loc (.d (.int p.1)), .loc (.d (.int p.2)), .none] := frz_ok (bp_ok (t' := .d (.int q)) (t := .d (.int q)) rfl (pk_ok (t := .d (.int p.2)) rfl) rfl mz)
    exact turn_map (env1 := [.loc (.d (.int a)), .loc (.d (.int b)), .loc (.d (t3 o0 o1 o2)), .loc (.d (t3 n0 n1 n2)), .loc (.d (.int q)), .loc (.d (.int p.1)), .loc (.d (.int p.2)), .none]) rfl (emD_ok (bp_ok (t := .d (.int p.1)) rfl K rfl e_sub_i)) rfl
  have LC := comp_lc (ws := [5, 6]) Z (by simp) rfl rfl (compL_map M) rfl
  have S2 := par2_ok (i := 2) (j := 3) (d1 := dVar 3) (d2 := dB1 oTuple (frzD _)) (env3 := eX a b (t3 n0 n1 n2) (t3 (o0 - q * n0) (o1 - q * n1) (o2 - q * n2)) (.loc (.d (.int q)))) (vr (x := t3 n0 n1 n2) rfl) (b1_ok (frz_ok LC) rfl) rfl
  unfold c_extended_divisor_0
  exact (seq_nx S1).trans (seq_nx S2)
theorem ext_loop {a b : Int} : ∀ (f : Nat) (o0 o1 o2 n0 n1 n2 : Int) (k : Nat) (s4 : Slot), isPar s4 = false → n0.toNat < f → 0 ≤ n0 → n0 < 128 → 0 ≤ o0 → o0 < 128 → o1.natAbs < 2 ^ k → o2.natAbs < 2 ^ k → n1.natAbs < 2 ^ k → n2.natAbs < 2 ^ k → 0 < k → k + 8 * f ≤ 900000 →
    a * o1 + b * o2 = o0 → a * n1 + b * n2 = n0 → ∃ x y n' s4', isPar s4' = false ∧ dWhile (aB (dBn oNe (dIxp 3 (frzD (dC (.int 0)))) (frzD (dC (.int 0))))) c_extended_divisor_0 (eX a b (t3 o0 o1 o2) (t3 n0 n1 n2) s4) = .ok .nx (eX a b (t3 (Int.gcd o0 n0) x y) n' s4') ∧ a * x + b * y = Int.gcd o0 n0 ∧ x.natAbs < 2 ^ (k + 8 * f) ∧ y.natAbs < 2 ^ (k + 8 * f)
  | 0, _, _, _, _, _, _, _, _, _, h, _, _, _, _, _, _, _, _, _, _, _, _ => by omega
  | f + 1, o0, o1, o2, n0, n1, n2, k, s4, h4, hf, p0, l0, q0, q1, c1, c2, k1, k2, hk, hk2, i1, i2 => by
    have C : aB (dBn oNe (dIxp 3 (frzD (dC (.int 0)))) (frzD (dC (.int 0)))) (eX a b (t3 o0 o1 o2) (t3 n0 n1 n2) s4) = .ok (!decide (n0 = 0)) (eX a b (t3 o0 o1 o2) (t3 n0 n1 n2) s4) := ne_ev (ixp_ok (t := .d (t3 n0 n1 n2)) rfl rfl rfl e_at_0) rfl e_eqD_i
    by_cases hz : n0 = 0
    · subst hz
      refine ⟨o1, o2, t3 0 n1 n2, s4, h4, ?_, ?_, Nat.lt_of_lt_of_le c1 (Nat.pow_le_pow_right (by decide) (by omega)), Nat.lt_of_lt_of_le c2 (Nat.pow_le_pow_right (by decide) (by omega))⟩
      · have e : ((Int.gcd o0 0 : Nat) : Int) = o0 := by simp; omega
        rw [e]
        exact dWhile_stop (by rw [C]; rfl)
      · simp; omega
    · rw [decide_eq_false hz] at C
      have pn : 0 < n0 := by omega
      have st := ext_step (a := a) (b := b) (o0 := o0) (o1 := o1) (o2 := o2) (n0 := n0) (n1 := n1) (n2 := n2) h4 pn l0 q0 q1 k1 k2 hk (by omega)
      have e := Int.fdiv_eq_ediv_of_nonneg o0 p0
      have em : o0 - o0.fdiv n0 * n0 = o0 % n0 := by rw [e, Int.emod_def, Int.mul_comm]
      have m0 := Int.emod_nonneg o0 hz
      have m1 := Int.emod_lt_of_pos o0 pn
      have f0 : 0 ≤ o0.fdiv n0 := by rw [e]; exact Int.ediv_nonneg q0 p0
      have f1 : o0.fdiv n0 < 128 := by rw [e]; exact Int.lt_of_le_of_lt (Int.ediv_le_self _ q0) q1
      have up : ∀ {z : Int}, z.natAbs < 2 ^ k → z.natAbs < 2 ^ (k + 8) := fun h => Nat.lt_of_lt_of_le h (Nat.pow_le_pow_right (by decide) (by omega))
      rw [← em] at m0 m1
      obtain ⟨x, y, n', s4', w4, w, bz, b1, b2⟩ := ext_loop f n0 n1 n2 (o0 - o0.fdiv n0 * n0) (o1 - o0.fdiv n0 * n1) (o2 - o0.fdiv n0 * n2) (k + 8) (.loc (.d (.int (o0.fdiv n0)))) rfl (by omega) m0 (by omega) p0 l0 (up k1) (up k2) (natAbs_step c1 k1 f0 f1) (natAbs_step c2 k2 f0 f1) (by omega) (by omega) i2 (by rw [← i1, ← i2]; grind)
      have eg : Int.gcd n0 (o0 - o0.fdiv n0 * n0) = Int.gcd o0 n0 := by
        rw [em, Int.gcd_comm]
        have := Mq.gcd_step o0 n0
        rw [Int.fmod_eq_emod_of_nonneg _ p0] at this
        first | exact this | (rw [Int.gcd_comm]; exact this)
      rw [eg] at w bz
      have e8 : k + 8 + 8 * f = k + 8 * (f + 1) := by omega
      rw [e8] at b1 b2
      exact ⟨x, y, n', s4', w4, (dWhile_step C st).trans w, bz, b1, b2⟩
theorem ext_ok {a b : Int} (ha : 0 ≤ a) (hb : 0 ≤ b) (la : a < 128) (lb : b < 128) : ∃ x y, F_extended_divisor [.d (.int a), .d (.int b)] = .ok (.d (t3 (Int.gcd a b) x y)) [] ∧ a * x + b * y = Int.gcd a b ∧ x.natAbs < 2 ^ 1100 ∧ y.natAbs < 2 ^ 1100 := by
  obtain ⟨x, y, n', s4', w4, w, bz, b1, b2⟩ := ext_loop (a := a) (b := b) 129 a 1 0 b 0 1 1 .none rfl (by omega) hb lb ha la (by decide) (by decide) (by decide) (by decide) (by decide) (by decide) (by grind) (by grind)
  have e9 : 1 + 8 * 129 = 1033 := rfl
  rw [e9] at b1 b2
  have up : ∀ {z : Int}, z.natAbs < 2 ^ 1033 → z.natAbs < 2 ^ 1100 := fun h => Nat.lt_of_lt_of_le h (Nat.pow_le_pow_right (by decide) (by decide))
  refine ⟨x, y, ?_, bz, up b1, up b2⟩
  have P : dPar2 2 3 (dTup (dCons (dVar 0) (dCons (dC (.int 1)) (dCons (dC (.int 0)) (dNil))))) (dTup (dCons (dVar 1) (dCons (dC (.int 0)) (dCons (dC (.int 1)) (dNil))))) [.loc (.d (.int a)), .loc (.d (.int b)), .none, .none, .none, .none, .none, .none] = .ok .nx (eX a b (t3 a 1 0) (t3 b 0 1) .none) := par2_ok (tup_ok (xs := [.int a, .int 1, .int 0]) rfl (by show 3 ≤ sizeLine; decide)) (tup_ok (xs := [.int b, .int 0, .int 1]) rfl (by show 3 ≤ sizeLine; decide)) rfl
  have T : aB (dBn oGe (dIxp 2 (frzD (dC (.int 0)))) (frzD (dC (.int 0)))) (eX a b (t3 (Int.gcd a b) x y) n' s4') = .ok (decide ((0 : Int) ≤ (Int.gcd a b : Int))) (eX a b (t3 (Int.gcd a b) x y) n' s4') := aB_ok (bn_ok (ixp_ok (t := .d (t3 (Int.gcd a b) x y)) rfl rfl rfl e_at_0) rfl e_ge_i)
  rw [decide_eq_true (by omega)] at T
  unfold F_extended_divisor c_extended_divisor
  have R : dIf (aB (dBn oGe (dIxp 2 (frzD (dC (.int 0)))) (frzD (dC (.int 0))))) (dVar 2) (dB1 oTuple (frzD (dLc (dIt (dVar 2)) [7] (turnD [7] (gNm 7) (dYes) (dUn oNeg (pk 7)))))) (eX a b (t3 (Int.gcd a b) x y) n' s4') = .ok (.d (t3 (Int.gcd a b) x y)) (eX a b (t3 (Int.gcd a b) x y) n' s4') := by
    rw [e_dIf, T, e_bind_ok, if_pos rfl]
    exact vr (x := t3 (Int.gcd a b) x y) rfl
  refine fn_rt (env1 := eX a b (t3 (Int.gcd a b) x y) n' s4') ((seq_nx P).trans ((seq_nx w).trans (seq_rt (ret_ok R)))) ?_
  cases s4' with
  | par t => exact absurd w4 (by simp)
  | _ => rfl
end Po

/-! the common divisor of many -/
namespace Mo
theorem dot_map (x : Int) : ∀ fs xs : List Int, dot (fs.map fun f => x * f) xs = x * dot fs xs
  | [], xs => by simp [dot]
  | f :: fs, [] => by simp [dot]
  | f :: fs, y :: xs => by
    have := dot_map x fs xs
    show x * f * y + dot (fs.map fun f => x * f) xs = x * (f * y + dot fs xs)
    rw [this]; grind
theorem dot_snoc {y n : Int} : ∀ {fs xs : List Int}, fs.length = xs.length → dot (fs ++ [y]) (xs ++ [n]) = dot fs xs + y * n
  | [], [], _ => by simp [dot]
  | f :: fs, x :: xs, h => by
    have := dot_snoc (y := y) (n := n) (fs := fs) (xs := xs) (by simpa using h)
    show f * x + dot (fs ++ [y]) (xs ++ [n]) = f * x + dot fs xs + y * n
    rw [this]; grind
  | [], _ :: _, h => by simp at h
  | _ :: _, [], h => by simp at h
end Mo
namespace Po
open PySem Dn Cd Mo
theorem asg_ok {d : DE} {g : D → Ev → Option Ev} {env env1 env2 : Ev} {t : T} (h : d env = .ok t env1) (hg : g t.frz env1 = some env2) : dAsg g d env = .ok .nx env2 := by rw [e_dAsg, h, e_bindD_ok, hg, e_nxO_s]
theorem gcd_small {a b : Int} (ha : 0 ≤ a) (hb : 0 ≤ b) (la : a < 128) (lb : b < 128) : ((Int.gcd a b : Nat) : Int) < 128 := by
  by_cases z : a = 0
  · subst z; simp; omega
  · have := Int.le_of_dvd (by omega) (Int.gcd_dvd_left a b)
    omega
abbrev eC (D0 : D) (d : Int) (t : T) (s3 s4 s5 : Slot) : Ev := [.loc (.d D0), .loc (.d (.int d)), .loc t, s3, s4, s5, .none]
theorem combined_loop {D0 : D} : ∀ (todo dn fs : List Int) (d : Int) (s3 s4 s5 : Slot), isPar s3 = false → isPar s4 = false → isPar s5 = false → (∀ n ∈ todo, 0 ≤ n ∧ n < 128) → 0 ≤ d → d < 128 → fs.length = dn.length → dot fs dn = d → (∀ n ∈ dn, d ∣ n) → (∀ f ∈ fs, f.natAbs < 2 ^ (1100 * dn.length)) → dn.length + todo.length ≤ 60 →
    ∃ g fs' s3' s4' s5', isPar s3' = false ∧ isPar s4' = false ∧ isPar s5' = false ∧ forL (gNm 3) c_combined_0 (todo.map .int) (eC D0 d (.lst (fs.map .int)) s3 s4 s5) = .ok .nx (eC D0 g (.lst (fs'.map .int)) s3' s4' s5') ∧
      0 ≤ g ∧ g < 128 ∧ fs'.length = (dn ++ todo).length ∧ dot fs' (dn ++ todo) = g ∧ (∀ n ∈ dn ++ todo, g ∣ n) ∧ (∀ f ∈ fs', f.natAbs < 2 ^ (1100 * (dn ++ todo).length))
  | [], dn, fs, d, s3, s4, s5, p3, p4, p5, _, d0, d1, hl, hd, hv, hb, _ => ⟨d, fs, s3, s4, s5, p3, p4, p5, rfl, d0, d1, by simpa using hl, by simpa using hd, by simpa using hv, by simpa using hb⟩
  | n :: todo, dn, fs, d, s3, s4, s5, p3, p4, p5, hn, d0, d1, hl, hd, hv, hb, hz => by
    obtain ⟨n0, n1⟩ := hn n List.mem_cons_self
    rw [List.length_cons] at hz
    obtain ⟨x, y, ex, bz, bx, bY⟩ := ext_ok d0 n0 d1 n1
    have up : ∀ {z : Int} {j k : Nat}, z.natAbs < 2 ^ j → j ≤ k → z.natAbs < 2 ^ k := fun h l => Nat.lt_of_lt_of_le h (Nat.pow_le_pow_right (by decide) l)
    have el : 1100 * (dn ++ [n]).length = 1100 * dn.length + 1100 := by rw [List.length_append]; show 1100 * (dn.length + 1) = _; omega
    obtain ⟨g, fs', s3', s4', s5', q3, q4, q5, w, r⟩ := combined_loop (D0 := D0) todo (dn ++ [n]) (fs.map (fun f => x * f) ++ [y]) (Int.gcd d n) (.loc (.d (.int n))) (.loc (.d (.int x))) (.loc (.d (.int y))) rfl rfl rfl (fun z hz => hn z (List.mem_cons_of_mem _ hz)) (by omega) (gcd_small d0 n0 d1 n1) (by simp [hl])
      (by rw [dot_snoc (by simpa using hl), dot_map, hd, ← bz]; grind) (fun z hz => by
        rcases List.mem_append.mp hz with h | h
        · exact Int.dvd_trans (Int.gcd_dvd_left ..) (hv z h)
        · rw [List.mem_singleton.mp h]; exact Int.gcd_dvd_right ..) (fun f hf => by
        rw [el]
        rcases List.mem_append.mp hf with h | h
        · obtain ⟨f0, h0, rfl⟩ := List.mem_map.mp h
          rw [Int.natAbs_mul, Nat.mul_comm, Nat.pow_add]
          exact Nat.mul_lt_mul_of_lt_of_lt (hb f0 h0) bx
        · rw [List.mem_singleton.mp h]; exact up bY (by omega)) (by rw [List.length_append]; show dn.length + 1 + _ ≤ 60; omega)
    refine ⟨g, fs', s3', s4', s5', q3, q4, q5, ?_, by simpa using r⟩
    rw [List.map_cons, ← w]
    refine for_step (env1 := eC D0 d (.lst (fs.map .int)) (.loc (.d (.int n))) s4 s5) (by simp [p3]) ?_
    have A1 : dAsg (gTup 3 (gCons (gNm 1) (gCons (gNm 4) (gCons (gNm 5) (gNil))))) (dCallP F_extended_divisor 2 [] (dCons (dVar 1) (dCons (dVar 3) (dNil)))) (eC D0 d (.lst (fs.map .int)) (.loc (.d (.int n))) s4 s5) = .ok .nx (eC D0 (Int.gcd d n) (.lst (fs.map .int)) (.loc (.d (.int n))) (.loc (.d (.int x))) (.loc (.d (.int y)))) :=
      asg_ok (t := .d (t3 (Int.gcd d n) x y)) (call_ok (ar2 rfl rfl) (callP_ok rfl ex)) (by simp [p4, p5])
    have L0 : (fs.map D.int).length < 1000000 := by rw [List.length_map]; omega
    have M : ∀ f ∈ fs, turnD [6] (gNm 6) (dYes) (dBp oMul 4 (pk 6)) (D.int f) (eC D0 (Int.gcd d n) (.d (.list (fs.map .int))) (.loc (.d (.int n))) (.loc (.d (.int x))) (.loc (.d (.int y)))) = .ok (some (D.int (x * f))) (eC D0 (Int.gcd d n) (.d (.list (fs.map .int))) (.loc (.d (.int n))) (.loc (.d (.int x))) (.loc (.d (.int y)))) := fun f hf => by
      have ml : oMul (.int x) (.int f) = some (.d (.int (x * f))) := by rw [e_mul_i, if_pos (mulOk_of (k := 1100) (l := 1100 * dn.length + 1) bx (up (hb f hf) (by omega)) (by decide) (by omega) (by omega))]
      exact turn_map (env1 := [.loc (.d D0), .loc (.d (.int (Int.gcd d n))), .loc (.d (.list (fs.map .int))), .loc (.d (.int n)), .loc (.d (.int x)), .loc (.d (.int y)), .loc (.d (.int f))]) rfl (emD_ok (bp_ok (t' := .d (.int x)) (t := .d (.int x)) rfl (pk_ok (t := .d (.int f)) rfl) rfl ml)) rfl
    have LC := comp_lc (ws := [6]) (tn := turnD [6] (gNm 6) (dYes) (dBp oMul 4 (pk 6))) (it := dIt (dVar 2)) (env := eC D0 (Int.gcd d n) (.lst (fs.map .int)) (.loc (.d (.int n))) (.loc (.d (.int x))) (.loc (.d (.int y)))) (env1 := eC D0 (Int.gcd d n) (.d (.list (fs.map .int))) (.loc (.d (.int n))) (.loc (.d (.int x))) (.loc (.d (.int y)))) (it_ok (t := .d (.list (fs.map .int))) rfl rfl) L0 rfl rfl (compL_map M) rfl
    have A2 : dSet 2 (dBn oAdd (dLc (dIt (dVar 2)) [6] (turnD [6] (gNm 6) (dYes) (dBp oMul 4 (pk 6)))) (frzD (dLst (dCons (dVar 5) (dNil))))) (eC D0 (Int.gcd d n) (.lst (fs.map .int)) (.loc (.d (.int n))) (.loc (.d (.int x))) (.loc (.d (.int y)))) = .ok .nx (eC D0 (Int.gcd d n) (.lst ((fs.map (fun f => x * f) ++ [y]).map .int)) (.loc (.d (.int n))) (.loc (.d (.int x))) (.loc (.d (.int y)))) :=
      set_ok (bn_ok LC (frz_ok (lst_ok (xs := [.int y]) (ar1 rfl) (by show 1 ≤ sizeLine; decide))) (add_l (by simp; omega))) (by simp)
    unfold c_combined_0
    exact (seq_nx A1).trans (seq_nx A2)
theorem combined_ok {ns : List Int} (hn : ∀ n ∈ ns, 0 ≤ n ∧ n < 128) (hl : ns.length ≤ 60) : ∃ g fs, F_combined [.d (.list (ns.map .int))] = .ok (.d (.tup [.int g, .list (fs.map .int)])) [] ∧ 0 ≤ g ∧ g < 128 ∧ fs.length = ns.length ∧ dot fs ns = g ∧ (∀ n ∈ ns, g ∣ n) ∧ (∀ f ∈ fs, f.natAbs < 2 ^ (1100 * ns.length)) := by
  obtain ⟨g, fs, s3, s4, s5, q3, q4, q5, w, r⟩ := combined_loop (D0 := .list (ns.map .int)) ns [] [] 0 .none .none .none rfl rfl rfl hn (by decide) (by decide) rfl rfl (fun _ h => by cases h) (fun _ h => by cases h) (by simpa using hl)
  refine ⟨g, fs, ?_, by simpa using r⟩
  have P : dPar2 1 2 (dC (.int 0)) (dLst (dNil)) [.loc (.d (.list (ns.map .int))), .none, .none, .none, .none, .none, .none] = .ok .nx (eC (.list (ns.map .int)) 0 (.lst []) .none .none .none) := par2_ok (t := .d (.int 0)) (u := .lst []) rfl rfl rfl
  have I : dFor (dIt (dVar 0)) (gNm 3) (c_combined_0) (eC (.list (ns.map .int)) 0 (.lst []) .none .none .none) = .ok .nx (eC (.list (ns.map .int)) g (.lst (fs.map .int)) s3 s4 s5) := (for_ok (it_ok (t := .d (.list (ns.map .int))) rfl rfl)).trans w
  have V : dCons (dVar 1) (dCons (dVar 2) (dNil)) (eC (.list (ns.map .int)) g (.lst (fs.map .int)) s3 s4 s5) = .ok [.int g, .list (fs.map .int)] (eC (.list (ns.map .int)) g (.d (.list (fs.map .int))) s3 s4 s5) := cons_ok (t := .d (.int g)) rfl (cons_ok (t := .d (.list (fs.map .int))) rfl nil_ok)
  unfold F_combined c_combined
  refine fn_rt ((seq_nx P).trans ((seq_nx I).trans (seq_rt (ret_ok (tup_ok V (by show 2 ≤ sizeLine; decide)))))) ?_
  exact backs_none (by simp [q3, q4, q5])
end Po

/-! the class of speeds -/
namespace Po
open PySem Dn Cd Mo
def bF : Nat := 60000
def pD (o : Ob) : D := .tup [.int o.1, .int o.2]
/-- observations, in a list or a tuple -/
def OD (k : Bool) (os : List Ob) : D := if k then .tup (os.map pD) else .list (os.map pD)
theorem OD_items {k : Bool} {os : List Ob} : itemsD (OD k os) = some (os.map pD) := by cases k <;> rfl
theorem OD_seq {k : Bool} {os : List Ob} : seqZ (OD k os) = some (os.map pD) := by cases k <;> rfl
structure OsOk (L : Int) (os : List Ob) : Prop where
  l0 : 0 < L
  l1 : L < 128
  t : ∀ o ∈ os, 0 ≤ o.1 ∧ o.1 < 128
  p : ∀ o ∈ os, o.2.natAbs < 2 ^ 20
  few : os.length ≤ 50
theorem times_ok {L : Int} {k : Bool} {os : List Ob} (h : OsOk L os) : ∃ (g f0 m : Int) (fs : List Int), F_combined_times [.d (.int L), .d (OD k os)] = .ok (.d (.tup [.int g, .list (fs.map .int)])) [] ∧ L = g * m ∧ 0 < g ∧ 0 < m ∧ g < 128 ∧ fs.length = os.length ∧ f0 * L + dot fs (os.map (·.1)) = g ∧ (∀ o ∈ os, g ∣ o.1) ∧ (∀ f ∈ fs, f.natAbs < 2 ^ bF) := by
  have few := h.few
  obtain ⟨g, fs, ec, g0, g1, fl, fd, fv, fb⟩ := combined_ok (ns := L :: os.map (·.1)) (fun n hn => by
    rcases List.mem_cons.mp hn with e | hn
    · rw [e]; exact ⟨Int.le_of_lt h.l0, h.l1⟩
    · obtain ⟨o, ho, rfl⟩ := List.mem_map.mp hn
      exact h.t o ho) (by rw [List.length_cons, List.length_map]; omega)
  obtain ⟨f0, fs, rfl⟩ : ∃ f0 fs', fs = f0 :: fs' := by
    cases fs with
    | nil => simp at fl
    | cons a b => exact ⟨a, b, rfl⟩
  have gL : g ∣ L := fv L List.mem_cons_self
  have gne : g ≠ 0 := fun z => by
    obtain ⟨c, hc⟩ := gL
    rw [z] at hc
    have := h.l0
    omega
  obtain ⟨m, hm⟩ := gL
  have gp : 0 < g := by omega
  have mp : 0 < m := by
    have h1 : 0 < g * m := hm ▸ h.l0
    exact Int.pos_of_mul_pos_right h1 gp |> fun z => z
  refine ⟨g, f0, m, fs, ?_, hm, gp, mp, g1, by simpa using fl, fd, fun o ho => fv _ (List.mem_cons_of_mem _ (List.mem_map_of_mem (f := fun o : Ob => o.1) ho)), fun f hf => ?_⟩
  · have M : ∀ v2 v3 : Slot, ∀ o ∈ os, turnD [4, 5] (gTup 2 (gCons (gNm 4) (gCons (gNm 5) (gNil)))) (dYes) (dVar 4) (pD o) [.loc (.d (.int L)), .loc (.d (OD k os)), v2, v3, .none, .none] = .ok (some (D.int o.1)) [.loc (.d (.int L)), .loc (.d (OD k os)), v2, v3, .none, .none] := fun v2 v3 o ho =>
      turn_map (env1 := [.loc (.d (.int L)), .loc (.d (OD k os)), v2, v3, .loc (.d (.int o.1)), .loc (.d (.int o.2))]) rfl (emD_ok (vr (x := .int o.1) rfl)) rfl
    have L0 : (os.map pD).length < 1000000 := by rw [List.length_map]; omega
    have LC := comp_lc (ws := [4, 5]) (it := dIt (dVar 1)) (env := [.loc (.d (.int L)), .loc (.d (OD k os)), .none, .none, .none, .none]) (env1 := [.loc (.d (.int L)), .loc (.d (OD k os)), .none, .none, .none, .none]) (it_ok (t := .d (OD k os)) (vr rfl) OD_items) L0 rfl rfl (compL_map (M .none .none)) rfl
    have AR : dCons (dBn oAdd (dLst (dCons (dVar 0) (dNil))) (frzD (dLc (dIt (dVar 1)) [4, 5] (turnD [4, 5] (gTup 2 (gCons (gNm 4) (gCons (gNm 5) (gNil)))) (dYes) (dVar 4))))) (dNil) [.loc (.d (.int L)), .loc (.d (OD k os)), .none, .none, .none, .none] = .ok [.list ((L :: os.map (·.1)).map .int)] [.loc (.d (.int L)), .loc (.d (OD k os)), .none, .none, .none, .none] := by
      have ad : oAdd (.list [.int L]) (.list (os.map fun o : Ob => D.int o.1)) = some (.lst ([.int L] ++ os.map fun o : Ob => D.int o.1)) := add_l (by simp; omega)
      have := cons_ok (bn_ok (lst_ok (xs := [.int L]) (ar1 (i := 0) rfl) (by show 1 ≤ sizeLine; decide)) (frz_ok LC) ad) nil_ok
      rw [this]
      simp [T.frz, Function.comp_def]
    have A1 : dAsg (gTup 2 (gCons (gNm 2) (gCons (gNm 3) (gNil)))) (dCallP F_combined 1 [] (dCons (dBn oAdd (dLst (dCons (dVar 0) (dNil))) (frzD (dLc (dIt (dVar 1)) [4, 5] (turnD [4, 5] (gTup 2 (gCons (gNm 4) (gCons (gNm 5) (gNil)))) (dYes) (dVar 4))))) (dNil))) [.loc (.d (.int L)), .loc (.d (OD k os)), .none, .none, .none, .none] = .ok .nx [.loc (.d (.int L)), .loc (.d (OD k os)), .loc (.d (.int g)), .loc (.d (.list ((f0 :: fs).map .int))), .none, .none] :=
      asg_ok (call_ok AR (callP_1 ec)) rfl
    have SL : sliceD (some 1) none (.list ((f0 :: fs).map D.int)) = some (.lst (fs.map .int)) := by
      show some (T.lst (cutD (D.int f0 :: fs.map D.int) (some 1) none)) = _
      rw [cut_1]
    have R : dTup (dCons (dVar 2) (dCons (dSl (dVar 3) (oSm (dC (.int 1))) (oNo)) (dNil))) [.loc (.d (.int L)), .loc (.d (OD k os)), .loc (.d (.int g)), .loc (.d (.list ((f0 :: fs).map .int))), .none, .none] = .ok (.d (.tup [.int g, .list (fs.map .int)])) [.loc (.d (.int L)), .loc (.d (OD k os)), .loc (.d (.int g)), .loc (.d (.list ((f0 :: fs).map .int))), .none, .none] := by
      have S : dSl (dVar 3) (oSm (dC (.int 1))) (oNo) [.loc (.d (.int L)), .loc (.d (OD k os)), .loc (.d (.int g)), .loc (.d (.list ((f0 :: fs).map .int))), .none, .none] = .ok (.lst (fs.map .int)) [.loc (.d (.int L)), .loc (.d (OD k os)), .loc (.d (.int g)), .loc (.d (.list ((f0 :: fs).map .int))), .none, .none] := by
        show ofO (sliceD (some 1) none (.list ((f0 :: fs).map D.int))) _ = _
        rw [SL]; rfl
      exact tup_ok (cons_ok (t := .d (.int g)) (vr rfl) (cons_ok S nil_ok)) (by show 2 ≤ sizeLine; decide)
    unfold F_combined_times c_combined_times
    exact fn_rt ((seq_nx A1).trans (seq_rt (ret_ok R))) rfl
  · refine Nat.lt_of_lt_of_le (fb f (List.mem_cons_of_mem _ hf)) (Nat.pow_le_pow_right (by decide) ?_)
    rw [List.length_cons, List.length_map]; show _ ≤ 60000; omega
end Po

/-! the class of speeds: found or refused -/
namespace Mo
theorem dot_sum : ∀ (fs : List Int) (os : List Ob), ((fs.zip os).map fun q : Int × Ob => q.1 * q.2.2).sum = dot fs (os.map (·.2))
  | [], os => by simp [dot]
  | f :: fs, [] => by simp [dot]
  | f :: fs, o :: os => by
    have := dot_sum fs os
    show f * o.2 + ((fs.zip os).map fun q : Int × Ob => q.1 * q.2.2).sum = f * o.2 + dot fs (os.map (·.2))
    rw [this]
end Mo
namespace Po
open PySem Dn Cd Mo
theorem zipL_map {α β : Type} {f : α → D} {g : β → D} : ∀ (xs : List α) (ys : List β), zipL (xs.map f) (ys.map g) = (xs.zip ys).map fun q : α × β => D.tup [f q.1, g q.2]
  | [], ys => by cases ys <;> simp [zipL]
  | x :: xs, [] => by simp [zipL]
  | x :: xs, y :: ys => by
    have := zipL_map (f := f) (g := g) xs ys
    simp only [List.map_cons, zipL, List.zip_cons_cons, this]
theorem intsD_map : ∀ xs : List Int, intsD (xs.map .int) = some xs
  | [] => rfl
  | x :: xs => by
    show (intsD (xs.map .int)).map (x :: ·) = _
    rw [intsD_map xs]; rfl
theorem enumD_map {α : Type} {f : α → D} : ∀ (i : Nat) (xs : List α), enumD i (xs.map f) = (xs.zipIdx i).map fun q : α × Nat => D.tup [.int q.2, f q.1]
  | i, [] => rfl
  | i, x :: xs => by
    have := enumD_map (f := f) (i + 1) xs
    show D.tup [.int i, f x] :: enumD ((i : Int) + 1) (xs.map f) = _
    have e : ((i : Int) + 1) = ((i + 1 : Nat) : Int) := by omega
    rw [e, this, List.zipIdx_cons, List.map_cons]
abbrev eF (L : Int) (O : D) (g : Int) (fs : List Int) (tot : Int) (s6 s7 s8 : Slot) : Ev := [.loc (.d (.int L)), .loc (.d O), .loc (.d (.int g)), .loc (.d (.list (fs.map .int))), .loc (.d (.int tot)), .none, s6, s7, s8, .none, .none, .none]
/-- the refusals -/
def ref1 (L g : Int) (fs : List Int) : List Int := fs.map fun f => L.fdiv g * f
def ref2 (t g : Int) (j : Nat) (fs : List Int) : List Int := (fs.zipIdx 0).map fun q : Int × Nat => t.fdiv g * q.1 - (if q.2 = j then 1 else 0)
section
variable {L g f0 m tot : Int} {fs : List Int} {os : List Ob} {k : Bool}
theorem mulF {a f : Int} (ha : a.natAbs < 2 ^ 200) (hf : f.natAbs < 2 ^ bF) : mulOk a f = true := mulOk_of (k := 200) (l := bF) ha hf (by decide) (by decide) (by decide)
theorem find_loop {O : D} (hL : OsOk L os) (g0 : 0 < g) (g1 : g < 128) (hf : ∀ f ∈ fs, f.natAbs < 2 ^ bF) (fl : fs.length ≤ 60) (ht : tot.natAbs < 2 ^ (bF + 100)) : ∀ (todo : List Ob) (i : Nat) (s6 s7 s8 : Slot), isPar s6 = false → isPar s7 = false → isPar s8 = false → (∀ o ∈ todo, o ∈ os) →
    (∃ s6' s7' s8', isPar s6' = false ∧ isPar s7' = false ∧ isPar s8' = false ∧ (∀ o ∈ todo, L ∣ o.1 / g * tot - o.2) ∧ forL (gTup 2 (gCons (gNm 8) (gCons (gTup 2 (gCons (gNm 6) (gCons (gNm 7) (gNil)))) (gNil)))) c_find_class_0 (enumD i (todo.map pD)) (eF L O g fs tot s6 s7 s8) = .ok .nx (eF L O g fs tot s6' s7' s8')) ∨
    (∃ (o : Ob) (j : Nat) (e : Ev), o ∈ todo ∧ ¬ L ∣ o.1 / g * tot - o.2 ∧ todo[j]? = some o ∧ backs e = [] ∧ forL (gTup 2 (gCons (gNm 8) (gCons (gTup 2 (gCons (gNm 6) (gCons (gNm 7) (gNil)))) (gNil)))) c_find_class_0 (enumD i (todo.map pD)) (eF L O g fs tot s6 s7 s8) = .ok (.rt (.d (.tup [.none, .tup ((ref2 o.1 g (i + j) fs).map .int)]))) e)
  | [], i, s6, s7, s8, p6, p7, p8, _ => .inl ⟨s6, s7, s8, p6, p7, p8, (fun _ h => absurd h List.not_mem_nil), rfl⟩
  | o :: todo, i, s6, s7, s8, p6, p7, p8, hm => by
    have ho := hm o List.mem_cons_self
    obtain ⟨t0, t1⟩ := hL.t o ho
    have pp := hL.p o ho
    have dv : ∀ a : Int, oDiv (.int a) (.int g) = some (.d (.int (a.fdiv g))) := fun a => by rw [e_div_i, if_pos (div64 (by omega) (by omega))]
    have eq := Int.fdiv_eq_ediv_of_nonneg o.1 (Int.le_of_lt g0)
    have q0 : 0 ≤ o.1 / g := Int.ediv_nonneg t0 (Int.le_of_lt g0)
    have q1 : o.1 / g < 128 := Int.lt_of_le_of_lt (Int.ediv_le_self _ t0) t1
    have l0 := hL.l0
    have l1 := hL.l1
    have mt : oMul (.int (o.1.fdiv g)) (.int tot) = some (.d (.int (o.1.fdiv g * tot))) := by
      rw [e_mul_i, if_pos (mulOk_of (k := 8) (l := bF + 100) (by rw [eq]; omega) ht (by decide) (by decide) (by decide))]
    have md : ∀ a : Int, oMod (.int a) (.int L) = some (.d (.int (a.fmod L))) := fun a => by rw [e_mod_i, if_neg (by omega)]
    have hg : gTup 2 (gCons (gNm 8) (gCons (gTup 2 (gCons (gNm 6) (gCons (gNm 7) (gNil)))) (gNil))) (.tup [.int (i : Nat), pD o]) (eF L O g fs tot s6 s7 s8) = some (eF L O g fs tot (.loc (.d (.int o.1))) (.loc (.d (.int o.2))) (.loc (.d (.int (i : Nat))))) := by simp [pD, p6, p7, p8]
    have T : aB (dBn oNe (dBn oMod (dBn oSub (dBn oMul (dBp oDiv 6 (pk 2)) (pk 4)) (pk 7)) (pk 0)) (frzD (dC (.int 0)))) (eF L O g fs tot (.loc (.d (.int o.1))) (.loc (.d (.int o.2))) (.loc (.d (.int (i : Nat))))) = .ok (!decide ((o.1.fdiv g * tot - o.2).fmod L = 0)) (eF L O g fs tot (.loc (.d (.int o.1))) (.loc (.d (.int o.2))) (.loc (.d (.int (i : Nat))))) :=
      ne_ev (bn_ok (bn_ok (bn_ok (bp_ok (t' := .d (.int o.1)) (t := .d (.int o.1)) rfl (pk_ok (t := .d (.int g)) rfl) rfl (dv _)) (pk_ok (t := .d (.int tot)) rfl) mt) (pk_ok (t := .d (.int o.2)) rfl) e_sub_i) (pk_ok (t := .d (.int L)) rfl) (md _)) rfl e_eqD_i
    have iff : (o.1.fdiv g * tot - o.2).fmod L = 0 ↔ L ∣ o.1 / g * tot - o.2 := by rw [eq, Int.fmod_eq_emod_of_nonneg _ (Int.le_of_lt l0)]; exact Int.dvd_iff_emod_eq_zero.symm
    have ei : enumD i ((o :: todo).map pD) = .tup [.int (i : Nat), pD o] :: enumD ((i + 1 : Nat) : Int) (todo.map pD) := by
      show D.tup [.int i, pD o] :: enumD ((i : Int) + 1) (todo.map pD) = _
      have e : ((i : Int) + 1) = ((i + 1 : Nat) : Int) := by omega
      rw [e]
    by_cases hz : L ∣ o.1 / g * tot - o.2
    · rw [decide_eq_true (iff.mpr hz)] at T
      have st : c_find_class_0 (eF L O g fs tot (.loc (.d (.int o.1))) (.loc (.d (.int o.2))) (.loc (.d (.int (i : Nat))))) = .ok .nx (eF L O g fs tot (.loc (.d (.int o.1))) (.loc (.d (.int o.2))) (.loc (.d (.int (i : Nat))))) := seq_nx ((ite_f T).trans rfl)
      rcases find_loop hL g0 g1 hf fl ht (O := O) todo (i + 1) (.loc (.d (.int o.1))) (.loc (.d (.int o.2))) (.loc (.d (.int (i : Nat)))) rfl rfl rfl (fun z h => hm z (List.mem_cons_of_mem _ h)) with ⟨a, b, c, pa, pb, pc, hd, w⟩ | ⟨o2, j, e, h1, h2, h3, h4, w⟩
      · refine .inl ⟨a, b, c, pa, pb, pc, fun z hz2 => ?_, ?_⟩
        · rcases List.mem_cons.mp hz2 with e | h
          · rw [e]; exact hz
          · exact hd z h
        · rw [ei]
          exact (for_step hg st).trans w
      · refine .inr ⟨o2, j + 1, e, List.mem_cons_of_mem _ h1, h2, by simpa using h3, h4, ?_⟩
        rw [ei]
        have ej : i + (j + 1) = i + 1 + j := by omega
        rw [ej]
        exact (for_step hg st).trans w
    · rw [decide_eq_false (fun z => hz (iff.mp z))] at T
      have M : ∀ q ∈ fs.zipIdx 0, turnD [10, 5] (gTup 2 (gCons (gNm 10) (gCons (gNm 5) (gNil)))) (dYes) (dBn oSub (dBn oMul (dBp oDiv 6 (pk 2)) (pk 5)) (frzD (dB1 oInt (frzD (dBp oEq 10 (pk 8)))))) (D.tup [.int (q.2 : Nat), .int q.1]) (eF L O g fs tot (.loc (.d (.int o.1))) (.loc (.d (.int o.2))) (.loc (.d (.int (i : Nat))))) = .ok (some (D.int (o.1.fdiv g * q.1 - (if q.2 = i then 1 else 0)))) (eF L O g fs tot (.loc (.d (.int o.1))) (.loc (.d (.int o.2))) (.loc (.d (.int (i : Nat))))) := fun q hq => by
        have hfq : q.1 ∈ fs := List.fst_mem_of_mem_zipIdx hq
        have mf : oMul (.int (o.1.fdiv g)) (.int q.1) = some (.d (.int (o.1.fdiv g * q.1))) := by rw [e_mul_i, if_pos (mulF (by rw [eq]; omega) (hf _ hfq))]
        have B : frzD (dB1 oInt (frzD (dBp oEq 10 (pk 8)))) [.loc (.d (.int L)), .loc (.d O), .loc (.d (.int g)), .loc (.d (.list (fs.map .int))), .loc (.d (.int tot)), .loc (.d (.int q.1)), .loc (.d (.int o.1)), .loc (.d (.int o.2)), .loc (.d (.int (i : Nat))), .none, .loc (.d (.int (q.2 : Nat))), .none] = .ok (.int (if q.2 = i then 1 else 0)) [.loc (.d (.int L)), .loc (.d O), .loc (.d (.int g)), .loc (.d (.list (fs.map .int))), .loc (.d (.int tot)), .loc (.d (.int q.1)), .loc (.d (.int o.1)), .loc (.d (.int o.2)), .loc (.d (.int (i : Nat))), .none, .loc (.d (.int (q.2 : Nat))), .none] := by
          have b1 : oInt (.bool (decide (((q.2 : Nat) : Int) = ((i : Nat) : Int)))) = some (.d (.int (if q.2 = i then 1 else 0))) := by
            by_cases e : q.2 = i
            · rw [if_pos e, decide_eq_true (by omega)]; rfl
            · rw [if_neg e, decide_eq_false (by omega)]; rfl
          exact frz_ok (b1_ok (frz_ok (bp_ok (t' := .d (.int (q.2 : Nat))) (t := .d (.int (q.2 : Nat))) rfl (pk_ok (t := .d (.int (i : Nat))) rfl) rfl (eq_o e_eqD_i))) b1)
        exact turn_map (env1 := [.loc (.d (.int L)), .loc (.d O), .loc (.d (.int g)), .loc (.d (.list (fs.map .int))), .loc (.d (.int tot)), .loc (.d (.int q.1)), .loc (.d (.int o.1)), .loc (.d (.int o.2)), .loc (.d (.int (i : Nat))), .none, .loc (.d (.int (q.2 : Nat))), .none]) rfl (emD_ok (bn_ok (bn_ok (bp_ok (t' := .d (.int o.1)) (t := .d (.int o.1)) rfl (pk_ok (t := .d (.int g)) rfl) rfl (dv _)) (pk_ok (t := .d (.int q.1)) rfl) mf) B e_sub_i)) rfl
      have Z : dRng enmS (dCons (dVar 3) (dNil)) (eF L O g fs tot (.loc (.d (.int o.1))) (.loc (.d (.int o.2))) (.loc (.d (.int (i : Nat))))) = .ok ((fs.zipIdx 0).map fun q : Int × Nat => D.tup [.int (q.2 : Nat), .int q.1]) (eF L O g fs tot (.loc (.d (.int o.1))) (.loc (.d (.int o.2))) (.loc (.d (.int (i : Nat))))) := by
        refine rng_ok (ar1 (i := 3) (x := .list (fs.map .int)) rfl) ?_
        show some (enumD ((0 : Nat) : Int) (fs.map .int)) = _
        rw [enumD_map]
      have LC := comp_lc (ws := [10, 5]) Z (by simp; omega) rfl rfl (compL_map M) rfl
      have S9 := set_ok (i := 9) (env2 := [.loc (.d (.int L)), .loc (.d O), .loc (.d (.int g)), .loc (.d (.list (fs.map .int))), .loc (.d (.int tot)), .none, .loc (.d (.int o.1)), .loc (.d (.int o.2)), .loc (.d (.int (i : Nat))), .loc (.lst ((fs.zipIdx 0).map fun q : Int × Nat => D.int (o.1.fdiv g * q.1 - (if q.2 = i then 1 else 0)))), .none, .none]) LC rfl
      have er : ((fs.zipIdx 0).map fun q : Int × Nat => D.int (o.1.fdiv g * q.1 - (if q.2 = i then 1 else 0))) = (ref2 o.1 g i fs).map .int := by unfold ref2; rw [List.map_map]; rfl
      rw [er] at S9
      have R : dTup (dCons (dC .none) (dCons (dB1 oTuple (pk 9)) (dNil))) [.loc (.d (.int L)), .loc (.d O), .loc (.d (.int g)), .loc (.d (.list (fs.map .int))), .loc (.d (.int tot)), .none, .loc (.d (.int o.1)), .loc (.d (.int o.2)), .loc (.d (.int (i : Nat))), .loc (.lst ((ref2 o.1 g i fs).map .int)), .none, .none] = .ok (.d (.tup [.none, .tup ((ref2 o.1 g i fs).map .int)])) [.loc (.d (.int L)), .loc (.d O), .loc (.d (.int g)), .loc (.d (.list (fs.map .int))), .loc (.d (.int tot)), .none, .loc (.d (.int o.1)), .loc (.d (.int o.2)), .loc (.d (.int (i : Nat))), .loc (.lst ((ref2 o.1 g i fs).map .int)), .none, .none] :=
        tup_ok (cons_ok (t := .d .none) rfl (cons_ok (t := .d (.tup ((ref2 o.1 g i fs).map .int))) (b1_ok (pk_ok (t := .lst ((ref2 o.1 g i fs).map .int)) rfl) rfl) nil_ok)) (by show 2 ≤ sizeLine; decide)
      have st : c_find_class_0 (eF L O g fs tot (.loc (.d (.int o.1))) (.loc (.d (.int o.2))) (.loc (.d (.int (i : Nat))))) = .ok (.rt (.d (.tup [.none, .tup ((ref2 o.1 g i fs).map .int)]))) [.loc (.d (.int L)), .loc (.d O), .loc (.d (.int g)), .loc (.d (.list (fs.map .int))), .loc (.d (.int tot)), .none, .loc (.d (.int o.1)), .loc (.d (.int o.2)), .loc (.d (.int (i : Nat))), .loc (.lst ((ref2 o.1 g i fs).map .int)), .none, .none] := seq_rt ((ite_t T).trans ((seq_nx S9).trans (seq_rt (ret_ok R))))
      refine .inr ⟨o, 0, [.loc (.d (.int L)), .loc (.d O), .loc (.d (.int g)), .loc (.d (.list (fs.map .int))), .loc (.d (.int tot)), .none, .loc (.d (.int o.1)), .loc (.d (.int o.2)), .loc (.d (.int (i : Nat))), .loc (.lst ((ref2 o.1 g i fs).map .int)), .none, .none], List.mem_cons_self, hz, rfl, rfl, ?_⟩
      · rw [ei, Nat.add_zero]
        exact for_ret hg st
end
end Po

/-! find_class -/
namespace Mo
theorem dot_small {k : Nat} : ∀ {fs xs : List Int}, (∀ f ∈ fs, f.natAbs < 2 ^ k) → (∀ x ∈ xs, x.natAbs < 2 ^ 20) → (dot fs xs).natAbs ≤ fs.length * 2 ^ (k + 20)
  | [], xs, _, _ => by simp [dot]
  | f :: fs, [], _, _ => by simp [dot]
  | f :: fs, x :: xs, h1, h2 => by
    have ih := dot_small (fs := fs) (xs := xs) (fun z hz => h1 z (List.mem_cons_of_mem _ hz)) fun z hz => h2 z (List.mem_cons_of_mem _ hz)
    have a := h1 f List.mem_cons_self
    have b := h2 x List.mem_cons_self
    have c : (f * x).natAbs < 2 ^ (k + 20) := by
      rw [Int.natAbs_mul, Nat.pow_add]
      exact Nat.mul_lt_mul_of_lt_of_lt a b
    have d := Int.natAbs_add_le (f * x) (dot fs xs)
    show (f * x + dot fs xs).natAbs ≤ (fs.length + 1) * 2 ^ (k + 20)
    rw [Nat.add_mul, Nat.one_mul]
    omega
end Mo
namespace Po
open PySem Dn Cd Mo
theorem find_ok {L : Int} {k : Bool} {os : List Ob} (h : OsOk L os) : ∃ (g m : Int) (fs : List Int) (x : D), F_combined_times [.d (.int L), .d (OD k os)] = .ok (.d (.tup [.int g, .list (fs.map .int)])) [] ∧ L = g * m ∧ 0 < g ∧ 0 < m ∧
    F_find_class [.d (.int L), .d (OD k os)] = .ok (.d x) [] ∧ ((∃ rf, x = .tup [.none, .tup rf]) ∧ (∀ v, ¬ Fits L os v) ∨ ∃ r : Int, x = .tup [.tup [.int r, .int m], .none] ∧ 0 ≤ r ∧ r < m ∧ ∀ v, Fits L os v ↔ m ∣ v - r) := by
  obtain ⟨g, f0, m, fs, et, hm, g0, m0, g1, fl, hb, hv, hf⟩ := times_ok (k := k) h
  have few := h.few
  have l0 := h.l0
  have l1 := h.l1
  have gne : g ≠ 0 := by omega
  have dv : ∀ a : Int, oDiv (.int a) (.int g) = some (.d (.int (a.fdiv g))) := fun a => by rw [e_div_i, if_pos (div64 gne (by omega))]
  have mdg : ∀ a : Int, oMod (.int a) (.int g) = some (.d (.int (a.fmod g))) := fun a => by rw [e_mod_i, if_neg gne]
  have mdm : ∀ a : Int, oMod (.int a) (.int m) = some (.d (.int (a.fmod m))) := fun a => by rw [e_mod_i, if_neg (by omega)]
  have eLg : L.fdiv g = m := by rw [Int.fdiv_eq_ediv_of_nonneg _ (Int.le_of_lt g0), hm, Int.mul_ediv_cancel_left m gne]
  have mL : m ≤ L := by
    rw [hm]
    have := Int.mul_le_mul_of_nonneg_right (show (1 : Int) ≤ g by omega) (Int.le_of_lt m0)
    omega
  have A1 : dAsg (gTup 2 (gCons (gNm 2) (gCons (gNm 3) (gNil)))) (dCallP F_combined_times 2 [] (dCons (dVar 0) (dCons (dVar 1) (dNil)))) [.loc (.d (.int L)), .loc (.d (OD k os)), .none, .none, .none, .none, .none, .none, .none, .none, .none, .none] = .ok .nx [.loc (.d (.int L)), .loc (.d (OD k os)), .loc (.d (.int g)), .loc (.d (.list (fs.map .int))), .none, .none, .none, .none, .none, .none, .none, .none] :=
    asg_ok (call_ok (ar2 (i := 0) (j := 1) (x := .int L) (y := OD k os) rfl rfl) (callP_ok rfl et)) rfl
  have M : ∀ q ∈ fs.zip os, turnD [5, 6, 7] (gTup 2 (gCons (gNm 5) (gCons (gTup 2 (gCons (gNm 6) (gCons (gNm 7) (gNil)))) (gNil)))) (dYes) (dBp oMul 5 (pk 7)) (D.tup [.int q.1, pD q.2]) [.loc (.d (.int L)), .loc (.d (OD k os)), .loc (.d (.int g)), .loc (.d (.list (fs.map .int))), .none, .none, .none, .none, .none, .none, .none, .none] = .ok (some (D.int (q.1 * q.2.2))) [.loc (.d (.int L)), .loc (.d (OD k os)), .loc (.d (.int g)), .loc (.d (.list (fs.map .int))), .none, .none, .none, .none, .none, .none, .none, .none] := fun q hq => by
    have h1 : q.1 ∈ fs := (List.of_mem_zip (a := q.1) (b := q.2) hq).1
    have h2 : q.2 ∈ os := (List.of_mem_zip (a := q.1) (b := q.2) hq).2
    have ml : oMul (.int q.1) (.int q.2.2) = some (.d (.int (q.1 * q.2.2))) := by rw [e_mul_i, if_pos (mulOk_of (k := bF) (l := 20) (hf _ h1) (h.p _ h2) (by decide) (by decide) (by decide))]
    exact turn_map (env1 := [.loc (.d (.int L)), .loc (.d (OD k os)), .loc (.d (.int g)), .loc (.d (.list (fs.map .int))), .none, .loc (.d (.int q.1)), .loc (.d (.int q.2.1)), .loc (.d (.int q.2.2)), .none, .none, .none, .none]) rfl (emD_ok (bp_ok (t' := .d (.int q.1)) (t := .d (.int q.1)) rfl (pk_ok (t := .d (.int q.2.2)) rfl) rfl ml)) rfl
  have Z : dRng (zipD true) (dCons (dVar 3) (dCons (dVar 1) (dNil))) [.loc (.d (.int L)), .loc (.d (OD k os)), .loc (.d (.int g)), .loc (.d (.list (fs.map .int))), .none, .none, .none, .none, .none, .none, .none, .none] = .ok ((fs.zip os).map fun q : Int × Ob => D.tup [.int q.1, pD q.2]) [.loc (.d (.int L)), .loc (.d (OD k os)), .loc (.d (.int g)), .loc (.d (.list (fs.map .int))), .none, .none, .none, .none, .none, .none, .none, .none] := by
    refine rng_ok (ar2 (i := 3) (j := 1) (x := .list (fs.map .int)) (y := OD k os) rfl rfl) ?_
    show (match seqZ (.list (fs.map D.int)), seqZ (OD k os) with | some xs, some ys => if true = true ∧ xs.length ≠ ys.length then none else some (zipL xs ys) | _, _ => none) = _
    rw [OD_seq]
    show (if true = true ∧ (fs.map D.int).length ≠ (os.map pD).length then none else some (zipL (fs.map D.int) (os.map pD))) = _
    rw [if_neg (by rw [List.length_map, List.length_map]; exact fun z => z.2 fl), zipL_map]
  have LC := comp_lc (ws := [5, 6, 7]) Z (by simp; omega) rfl rfl (compL_map M) rfl
  have sm : oSum (.list ((fs.zip os).map fun q : Int × Ob => D.int (q.1 * q.2.2))) = some (.d (.int (dot fs (os.map (·.2))))) := by
    have e : ((fs.zip os).map fun q : Int × Ob => D.int (q.1 * q.2.2)) = ((fs.zip os).map fun q : Int × Ob => q.1 * q.2.2).map .int := by rw [List.map_map]; rfl
    rw [e]
    show (intsD _).map _ = _
    rw [intsD_map, Option.map_some, dot_sum]
  have bd := dot_small (fs := fs) (xs := os.map (·.2)) hf (fun x hx => by obtain ⟨o, ho, rfl⟩ := List.mem_map.mp hx; exact h.p o ho)
  have bt : (dot fs (os.map (·.2))).natAbs < 2 ^ (bF + 100) := by
    refine Nat.lt_of_le_of_lt bd ?_
    have e : bF + 100 = 80 + (bF + 20) := by show 60000 + 100 = 80 + (60000 + 20); rfl
    rw [e, Nat.pow_add 2 80]
    exact Nat.mul_lt_mul_of_pos_right (by have : (50 : Nat) < 2 ^ 80 := by decide
                                          omega) (Nat.two_pow_pos _)
  have n1 := no1 (os := os) (v := 0) hm hb
  have N1 : (∃ v, Fits L os v) → g ∣ dot fs (os.map (·.2)) := fun ⟨v, hv2⟩ => no1 (v := v) hm hb hv2
  have N2 : (∃ v, Fits L os v) → ∀ o ∈ os, L ∣ o.1 / g * dot fs (os.map (·.2)) - o.2 := fun ⟨v, hv2⟩ => no2 (v := v) hv gne hb hv2
  have Y := fun hg ha v => yes (v := v) (total := dot fs (os.map (·.2))) hm gne hv hb hg ha
  generalize dot fs (os.map (·.2)) = tot at *
  have S4 := set_ok (i := 4) (env2 := eF L (OD k os) g fs tot .none .none .none) (b1_ok (frz_ok LC) sm) rfl
  have T : aB (dBn oNe (dBp oMod 4 (pk 2)) (frzD (dC (.int 0)))) (eF L (OD k os) g fs tot .none .none .none) = .ok (!decide (tot.fmod g = 0)) (eF L (OD k os) g fs tot .none .none .none) := ne_ev (bp_ok (t' := .d (.int tot)) (t := .d (.int tot)) rfl (pk_ok (t := .d (.int g)) rfl) rfl (mdg _)) rfl e_eqD_i
  have ig : tot.fmod g = 0 ↔ g ∣ tot := by rw [Int.fmod_eq_emod_of_nonneg _ (Int.le_of_lt g0)]; exact Int.dvd_iff_emod_eq_zero.symm
  unfold F_find_class c_find_class
  by_cases hg : g ∣ tot
  · rw [decide_eq_true (ig.mpr hg)] at T
    rcases find_loop (tot := tot) (O := OD k os) h g0 g1 hf (by omega) bt os 0 .none .none .none rfl rfl rfl (fun _ z => z) with ⟨a, b, c, pa, pb, pc, hd, w⟩ | ⟨o, j, e, h1, h2, h3, h4, w⟩
    · refine ⟨g, m, fs, .tup [.tup [.int ((tot / g) % m), .int m], .none], et, hm, g0, m0, ?_, .inr ⟨_, rfl, Int.emod_nonneg _ (by omega), Int.emod_lt_of_pos _ m0, fun v => ?_⟩⟩
      · have F := for_ok (g := gTup 2 (gCons (gNm 8) (gCons (gTup 2 (gCons (gNm 6) (gCons (gNm 7) (gNil)))) (gNil)))) (s1 := c_find_class_0) (rng_ok (f := enmS) (ds := dCons (dVar 1) (dNil)) (env := eF L (OD k os) g fs tot .none .none .none) (ys := enumD ((0 : Nat) : Int) (os.map pD)) (ar1 (i := 1) (x := OD k os) rfl) (by show (seqZ (OD k os)).map (enumD 0) = _; rw [OD_seq]; rfl))
        have F := F.trans w
        have S11 : dSet 11 (dBp oDiv 0 (pk 2)) (eF L (OD k os) g fs tot a b c) = .ok .nx [.loc (.d (.int L)), .loc (.d (OD k os)), .loc (.d (.int g)), .loc (.d (.list (fs.map .int))), .loc (.d (.int tot)), .none, a, b, c, .none, .none, .loc (.d (.int m))] := set_ok (bp_ok (t' := .d (.int L)) (t := .d (.int L)) (u := .d (.int m)) rfl (pk_ok (t := .d (.int g)) rfl) rfl (by rw [← eLg]; exact dv _)) rfl
        have e1 : (tot.fdiv g).fmod m = tot / g % m := by rw [Int.fdiv_eq_ediv_of_nonneg _ (Int.le_of_lt g0), Int.fmod_eq_emod_of_nonneg _ (Int.le_of_lt m0)]
        have I : dTup (dCons (dBn oMod (dBp oDiv 4 (pk 2)) (pk 11)) (dCons (dVar 11) (dNil))) [.loc (.d (.int L)), .loc (.d (OD k os)), .loc (.d (.int g)), .loc (.d (.list (fs.map .int))), .loc (.d (.int tot)), .none, a, b, c, .none, .none, .loc (.d (.int m))] = .ok (.d (.tup [.int (tot / g % m), .int m])) [.loc (.d (.int L)), .loc (.d (OD k os)), .loc (.d (.int g)), .loc (.d (.list (fs.map .int))), .loc (.d (.int tot)), .none, a, b, c, .none, .none, .loc (.d (.int m))] := by
          refine tup_ok (cons_ok (t := .d (.int (tot / g % m))) (bn_ok (bp_ok (t' := .d (.int tot)) (t := .d (.int tot)) rfl (pk_ok (t := .d (.int g)) rfl) rfl (dv _)) (pk_ok (t := .d (.int m)) rfl) ?_) (ar1 (i := 11) rfl)) (by show 2 ≤ sizeLine; decide)
          rw [← e1]; exact mdm _
        have R := tup_ok (cons_ok I (cons_ok (t := .d .none) (d := dC .none) rfl nil_ok)) (by show 2 ≤ sizeLine; decide)
        exact fn_rt ((seq_nx A1).trans ((seq_nx S4).trans ((seq_nx ((ite_f T).trans rfl)).trans ((seq_nx F).trans ((seq_nx S11).trans (seq_rt (ret_ok R))))))) (backs_none (by simp [pa, pb, pc]))
      · rw [Y hg hd v]
        have e := Int.mul_ediv_add_emod (tot / g) m
        constructor
        · rintro ⟨c, hc⟩; exact ⟨c + tot / g / m, by rw [Int.mul_add]; omega⟩
        · rintro ⟨c, hc⟩; exact ⟨c - tot / g / m, by rw [Int.mul_sub]; omega⟩
    · refine ⟨g, m, fs, .tup [.none, .tup ((ref2 o.1 g (0 + j) fs).map .int)], et, hm, g0, m0, ?_, .inl ⟨⟨_, rfl⟩, fun v hv2 => h2 (N2 ⟨v, hv2⟩ o h1)⟩⟩
      have F := for_ok (g := gTup 2 (gCons (gNm 8) (gCons (gTup 2 (gCons (gNm 6) (gCons (gNm 7) (gNil)))) (gNil)))) (s1 := c_find_class_0) (rng_ok (f := enmS) (ds := dCons (dVar 1) (dNil)) (env := eF L (OD k os) g fs tot .none .none .none) (ys := enumD ((0 : Nat) : Int) (os.map pD)) (ar1 (i := 1) (x := OD k os) rfl) (by show (seqZ (OD k os)).map (enumD 0) = _; rw [OD_seq]; rfl))
      have F := F.trans w
      exact fn_rt ((seq_nx A1).trans ((seq_nx S4).trans ((seq_nx ((ite_f T).trans rfl)).trans (seq_rt F)))) h4
  · rw [decide_eq_false (fun z => hg (ig.mp z))] at T
    have M2 : ∀ f ∈ fs, turnD [5] (gNm 5) (dYes) (dBn oMul (dBp oDiv 0 (pk 2)) (pk 5)) (D.int f) (eF L (OD k os) g fs tot .none .none .none) = .ok (some (D.int (L.fdiv g * f))) (eF L (OD k os) g fs tot .none .none .none) := fun f hff => by
      have ml : oMul (.int (L.fdiv g)) (.int f) = some (.d (.int (L.fdiv g * f))) := by rw [e_mul_i, if_pos (mulF (by rw [eLg]; omega) (hf _ hff))]
      exact turn_map (env1 := [.loc (.d (.int L)), .loc (.d (OD k os)), .loc (.d (.int g)), .loc (.d (.list (fs.map .int))), .loc (.d (.int tot)), .loc (.d (.int f)), .none, .none, .none, .none, .none, .none]) rfl (emD_ok (bn_ok (bp_ok (t' := .d (.int L)) (t := .d (.int L)) rfl (pk_ok (t := .d (.int g)) rfl) rfl (dv _)) (pk_ok (t := .d (.int f)) rfl) ml)) rfl
    have LC2 := comp_lc (ws := [5]) (it := dIt (dVar 3)) (env := eF L (OD k os) g fs tot .none .none .none) (env1 := eF L (OD k os) g fs tot .none .none .none) (it_ok (t := .d (.list (fs.map .int))) (vr rfl) rfl) (by simp; omega) rfl rfl (compL_map M2) rfl
    have R := tup_ok (cons_ok (d := dC .none) (t := .d .none) rfl (cons_ok (t := .d (.tup (fs.map fun f => D.int (L.fdiv g * f)))) (b1_ok (o := oTuple) (frz_ok LC2) rfl) nil_ok)) (by show 2 ≤ sizeLine; decide)
    exact ⟨g, m, fs, _, et, hm, g0, m0, fn_rt ((seq_nx A1).trans ((seq_nx S4).trans (seq_rt ((ite_t T).trans (seq_rt (ret_ok R)))))) rfl, .inl ⟨⟨_, rfl⟩, fun v hv2 => hg (N1 ⟨v, hv2⟩)⟩⟩
end Po

/-! counts of speeds -/
namespace Mo
def fitsB (L : Int) (os : List Ob) (v : Int) : Bool := os.all fun o => decide ((o.1 * v - o.2) % L = 0)
theorem fitsB_iff {L v : Int} {os : List Ob} : fitsB L os v = true ↔ Fits L os v := by
  unfold fitsB Fits
  rw [List.all_eq_true]
  exact ⟨fun h o ho => Int.dvd_iff_emod_eq_zero.mpr (of_decide_eq_true (h o ho)), fun h o ho => decide_eq_true (Int.dvd_iff_emod_eq_zero.mp (h o ho))⟩
def known (L : Int) (os : List Ob) (lo hi : Int) : List Int := (upTo lo (hi + 1)).filter (fitsB L os)
theorem upTo_len (lo hi : Int) : (upTo lo hi).length = (hi - lo).toNat := by unfold upTo; rw [List.length_map, List.length_range]
theorem known_len (L : Int) (os : List Ob) (lo hi : Int) : (known L os lo hi).length ≤ (hi + 1 - lo).toNat := by
  unfold known
  exact Nat.le_trans (List.length_filter_le _ _) (Nat.le_of_eq (upTo_len _ _))
theorem known_none {L : Int} {os : List Ob} {lo hi : Int} (h : ∀ v, ¬ Fits L os v) : known L os lo hi = [] := List.filter_eq_nil_iff.mpr fun v _ z => h v (fitsB_iff.mp z)
theorem known_some {L r m : Int} {os : List Ob} {lo hi : Int} (hm : 0 < m) (h : ∀ v, Fits L os v ↔ m ∣ v - r) : known L os lo hi = prog (lst0 r m lo) m (cnt r m lo hi).toNat := known_eq hm fun v => fitsB_iff.trans (h v)
theorem prog_len (a m : Int) (n : Nat) : (prog a m n).length = n := by unfold prog; rw [List.length_map, List.length_range]
end Mo
namespace Po
open PySem Dn Cd Mo
theorem isa_ok {Tn : String} {dv : Ev → Rs D} {env env1 : Ev} {x : D} {b : Bool} (h : dv env = .ok x env1) (hi : isaD Tn x = some b) : dIsa Tn dv env = .ok (.d (.bool b)) env1 := by
  unfold dIsa
  rw [h, e_bind_ok, hi]
theorem isaL_ok {Ts : List String} {dv : Ev → Rs D} {env env1 : Ev} {x : D} {b : Bool} (h : dv env = .ok x env1) (hi : isaLs x Ts = some b) : dIsaL Ts dv env = .ok (.d (.bool b)) env1 := by
  rw [e_dIsaL, h, e_bind_ok, hi]
theorem ob_0 (o : Ob) : ixD (pD o) (.int 0) = some (.int o.1) := rfl
theorem ob_1 (o : Ob) : ixD (pD o) (.int 1) = some (.int o.2) := rfl
theorem is_int (n : Int) : F_is_integer [.d (.int n)] = .ok (.d (.bool true)) [] := rfl
theorem not_call {F : Fn} {ds : Ev → Rs (List D)} {n : Nat} {env env1 : Ev} {xs : List D} {b : Bool} (h : ds env = .ok xs env1) (h2 : callP F n [] xs env1 = .ok (.d (.bool b)) env1) : dNot (dTru (frzD (dCallP F n [] ds))) env = .ok (!b) env1 := not_ok (tru_ok (frz_ok (call_ok h h2)) rfl)
theorem val_len {L : Int} (h : 1 ≤ L) : F_validate_length [.d (.int L)] = .ok (.d .none) [] := by
  unfold F_validate_length c_validate_length
  have T : dOr (dNot (dTru (frzD (dCallP F_is_integer 1 [] (dCons (dVar 0) (dNil)))))) (aB (dBp oLt 0 (frzD (dC (.int 1))))) [.loc (.d (.int L))] = .ok (decide (L < 1)) [.loc (.d (.int L))] := (or_f (not_call (b := true) (ar1 (i := 0) (x := .int L) rfl) (callP_1 (is_int L)))).trans (aB_ok (bp_ok (t' := .d (.int L)) (t := .d (.int L)) rfl rfl rfl e_lt_i))
  rw [decide_eq_false (by omega)] at T
  exact fn_nx (seq_nx (ite_f T)) rfl
theorem is_ob {o : Ob} (h : 0 ≤ o.1) : F_is_observation [.d (pD o)] = .ok (.d (.bool true)) [] := by
  unfold F_is_observation c_is_observation
  have i1 : isaD "tuple" (pD o) = some true := rfl
  have T1 : dNot (dTru (frzD (dIsa "tuple" (pk 0)))) [.loc (.d (pD o))] = .ok false [.loc (.d (pD o))] := not_ok (b := true) (tru_ok (frz_ok (t := .d (.bool true)) (isa_ok (pk_ok (t := .d (pD o)) rfl) i1)) rfl)
  have T2 : aB (dBn oNe (dB1 oLen (pk 0)) (frzD (dC (.int 2)))) [.loc (.d (pD o))] = .ok false [.loc (.d (pD o))] := ne_ev (b := true) (b1_ok (o := oLen) (t := .d (.int 2)) (pk_ok (t := .d (pD o)) rfl) rfl) rfl (e_eqD_i.trans (congrArg some (decide_eq_true rfl)))
  have A : dAndV (dCallP F_is_integer 1 [] (dCons (dIxp 0 (frzD (dC (.int 0)))) (dNil))) (dAndV (dCallP F_is_integer 1 [] (dCons (dIxp 0 (frzD (dC (.int 1)))) (dNil))) (dBn oGe (dIxp 0 (frzD (dC (.int 0)))) (frzD (dC (.int 0))))) [.loc (.d (pD o))] = .ok (.d (.bool (decide (0 ≤ o.1)))) [.loc (.d (pD o))] :=
    (andV_t (call_ok (cons_ok (t := .d (.int o.1)) (ixp_ok (t := .d (pD o)) rfl rfl rfl (ob_0 o)) nil_ok) (callP_1 (is_int _)))).trans ((andV_t (call_ok (cons_ok (t := .d (.int o.2)) (ixp_ok (t := .d (pD o)) rfl rfl rfl (ob_1 o)) nil_ok) (callP_1 (is_int _)))).trans (bn_ok (t := .d (.int o.1)) (ixp_ok (t := .d (pD o)) rfl rfl rfl (ob_0 o)) rfl e_ge_i))
  rw [decide_eq_true h] at A
  exact fn_rt ((seq_nx ((ite_f ((or_f T1).trans T2)).trans rfl)).trans (seq_rt (ret_ok A))) rfl
theorem val_loop {O : D} {L : Int} : ∀ (os : List Ob) (i : Nat) (s2 s3 : Slot), isPar s2 = false → isPar s3 = false → (∀ o ∈ os, 0 ≤ o.1) → ∃ s2' s3', isPar s2' = false ∧ isPar s3' = false ∧ forL (gTup 2 (gCons (gNm 2) (gCons (gNm 3) (gNil)))) c_validate_observations_0 (enumD i (os.map pD)) [.loc (.d (.int L)), .loc (.d O), s2, s3] = .ok .nx [.loc (.d (.int L)), .loc (.d O), s2', s3']
  | [], i, s2, s3, p2, p3, _ => ⟨s2, s3, p2, p3, rfl⟩
  | o :: os, i, s2, s3, p2, p3, h => by
    obtain ⟨a, b, pa, pb, w⟩ := val_loop (O := O) (L := L) os (i + 1) (.loc (.d (.int (i : Nat)))) (.loc (.d (pD o))) rfl rfl fun z hz => h z (List.mem_cons_of_mem _ hz)
    refine ⟨a, b, pa, pb, ?_⟩
    have T := not_call (F := F_is_observation) (n := 1) (b := true) (env := [.loc (.d (.int L)), .loc (.d O), .loc (.d (.int (i : Nat))), .loc (.d (pD o))]) (ar1 (i := 3) (x := pD o) rfl) (callP_1 (is_ob (h o List.mem_cons_self)))
    have e : ((i : Int) + 1) = ((i + 1 : Nat) : Int) := by omega
    show forL _ _ (D.tup [.int i, pD o] :: enumD ((i : Int) + 1) (os.map pD)) _ = _
    rw [e]
    exact (for_step (env1 := [.loc (.d (.int L)), .loc (.d O), .loc (.d (.int (i : Nat))), .loc (.d (pD o))]) (by simp [p2, p3]) (seq_nx (ite_f T))).trans w
theorem val_obs {L : Int} {k : Bool} {os : List Ob} (h : OsOk L os) : F_validate_observations [.d (.int L), .d (OD k os)] = .ok (.d .none) [] := by
  obtain ⟨a, b, pa, pb, w⟩ := val_loop (O := OD k os) (L := L) os 0 .none .none rfl rfl fun o ho => (h.t o ho).1
  have few := h.few
  have V := call_ok (F := F_validate_length) (n := 1) (dvs := []) (env := [.loc (.d (.int L)), .loc (.d (OD k os)), .none, .none]) (ar1 (i := 0) (x := .int L) rfl) (callP_1 (val_len (by have := h.l0; omega)))
  have is1 : isaLs (OD k os) ["list", "tuple"] = some true := by cases k <;> rfl
  have T1 : dNot (dTru (frzD (dIsaL ["list", "tuple"] (pk 1)))) [.loc (.d (.int L)), .loc (.d (OD k os)), .none, .none] = .ok false [.loc (.d (.int L)), .loc (.d (OD k os)), .none, .none] := not_ok (b := true) (tru_ok (frz_ok (t := .d (.bool true)) (isaL_ok (pk_ok (t := .d (OD k os)) rfl) is1)) rfl)
  have ol : oLen (OD k os) = some (.d (.int os.length)) := by
    cases k
    · show some (T.d (.int ((os.map pD).length : Nat))) = _; rw [List.length_map]
    · show some (T.d (.int ((os.map pD).length : Nat))) = _; rw [List.length_map]
  have T2 : aB (dBn oGt (dB1 oLen (pk 1)) (frzD (dC (.int 50)))) [.loc (.d (.int L)), .loc (.d (OD k os)), .none, .none] = .ok (decide ((50 : Int) < (os.length : Int))) [.loc (.d (.int L)), .loc (.d (OD k os)), .none, .none] := aB_ok (bn_ok (b1_ok (pk_ok (t := .d (OD k os)) rfl) ol) rfl e_gt_i)
  rw [decide_eq_false (by omega)] at T2
  have F := (for_ok (g := gTup 2 (gCons (gNm 2) (gCons (gNm 3) (gNil)))) (s1 := c_validate_observations_0) (rng_ok (f := enmS) (ds := dCons (dVar 1) (dNil)) (env := [.loc (.d (.int L)), .loc (.d (OD k os)), .none, .none]) (ys := enumD ((0 : Nat) : Int) (os.map pD)) (ar1 (i := 1) (x := OD k os) rfl) (by show (seqZ (OD k os)).map (enumD 0) = _; rw [OD_seq]; rfl))).trans w
  unfold F_validate_observations c_validate_observations
  exact fn_nx ((seq_nx (expr_ok V)).trans ((seq_nx ((ite_f ((or_f T1).trans T2)).trans rfl)).trans ((seq_nx F).trans rfl))) (backs_none (by simp [pa, pb]))
theorem val_bounds (a b : Int) : F_validate_bounds [.d (.int a), .d (.int b)] = .ok (.d .none) [] := by
  unfold F_validate_bounds c_validate_bounds
  have T := (or_f (bt2 := dNot (dTru (frzD (dCallP F_is_integer 1 [] (dCons (dVar 1) (dNil)))))) (not_call (F := F_is_integer) (n := 1) (b := true) (env := [.loc (.d (.int a)), .loc (.d (.int b))]) (ar1 (i := 0) (x := .int a) rfl) (callP_1 (is_int a)))).trans (not_call (F := F_is_integer) (n := 1) (b := true) (ar1 (i := 1) (x := .int b) rfl) (callP_1 (is_int b)))
  exact fn_nx (seq_nx ((ite_f T).trans rfl)) rfl
theorem count_ok {L lo hi : Int} {k : Bool} {os : List Ob} (h : OsOk L os) : F_count_speeds [.d (.int L), .d (OD k os), .d (.int lo), .d (.int hi)] = .ok (.d (.int (known L os lo hi).length)) [] := by
  obtain ⟨g, m, fs, x, et, hm, g0, m0, ef, hx⟩ := find_ok (k := k) h
  have V1 := call_ok (F := F_validate_observations) (n := 2) (dvs := []) (env := [.loc (.d (.int L)), .loc (.d (OD k os)), .loc (.d (.int lo)), .loc (.d (.int hi)), .none, .none, .none]) (ar2 (i := 0) (j := 1) (x := .int L) (y := OD k os) rfl rfl) (callP_ok rfl (val_obs h))
  have V2 := call_ok (F := F_validate_bounds) (n := 2) (dvs := []) (env := [.loc (.d (.int L)), .loc (.d (OD k os)), .loc (.d (.int lo)), .loc (.d (.int hi)), .none, .none, .none]) (ar2 (i := 2) (j := 3) (x := .int lo) (y := .int hi) rfl rfl) (callP_ok rfl (val_bounds lo hi))
  have FC := call_ok (F := F_find_class) (n := 2) (dvs := []) (env := [.loc (.d (.int L)), .loc (.d (OD k os)), .loc (.d (.int lo)), .loc (.d (.int hi)), .none, .none, .none]) (ar2 (i := 0) (j := 1) (x := .int L) (y := OD k os) rfl rfl) (callP_ok rfl ef)
  unfold F_count_speeds c_count_speeds
  rcases hx with ⟨⟨rf, rfl⟩, hn⟩ | ⟨r, rfl, r0, r1, hv⟩
  · have S4 := set_ok (i := 4) (env2 := [.loc (.d (.int L)), .loc (.d (OD k os)), .loc (.d (.int lo)), .loc (.d (.int hi)), .loc (.d .none), .none, .none]) (ix_ok (dv := frzD (dC (.int 0))) (y := .int 0) (z := .none) FC rfl e_at_0) rfl
    have T : aB (dBp oIs 4 (frzD (dC .none))) [.loc (.d (.int L)), .loc (.d (OD k os)), .loc (.d (.int lo)), .loc (.d (.int hi)), .loc (.d .none), .none, .none] = .ok true [.loc (.d (.int L)), .loc (.d (OD k os)), .loc (.d (.int lo)), .loc (.d (.int hi)), .loc (.d .none), .none, .none] := aB_ok (bp_ok (t' := .d .none) (t := .d .none) rfl rfl rfl rfl)
    rw [known_none hn]
    exact fn_rt ((seq_nx (expr_ok V1)).trans ((seq_nx (expr_ok V2)).trans ((seq_nx S4).trans (seq_rt ((ite_t (or_t T)).trans (seq_rt (ret_ok (t := .d (.int 0)) rfl))))))) rfl
  · have S4 := set_ok (i := 4) (env2 := [.loc (.d (.int L)), .loc (.d (OD k os)), .loc (.d (.int lo)), .loc (.d (.int hi)), .loc (.d (.tup [.int r, .int m])), .none, .none]) (ix_ok (dv := frzD (dC (.int 0))) (y := .int 0) (z := .tup [.int r, .int m]) FC rfl e_at_0) rfl
    have T : aB (dBp oIs 4 (frzD (dC .none))) [.loc (.d (.int L)), .loc (.d (OD k os)), .loc (.d (.int lo)), .loc (.d (.int hi)), .loc (.d (.tup [.int r, .int m])), .none, .none] = .ok false [.loc (.d (.int L)), .loc (.d (OD k os)), .loc (.d (.int lo)), .loc (.d (.int hi)), .loc (.d (.tup [.int r, .int m])), .none, .none] := aB_ok (bp_ok (t' := .d (.tup [.int r, .int m])) (t := .d (.tup [.int r, .int m])) rfl rfl rfl rfl)
    have T2 : aB (dBp oGt 2 (pk 3)) [.loc (.d (.int L)), .loc (.d (OD k os)), .loc (.d (.int lo)), .loc (.d (.int hi)), .loc (.d (.tup [.int r, .int m])), .none, .none] = .ok (decide (hi < lo)) [.loc (.d (.int L)), .loc (.d (OD k os)), .loc (.d (.int lo)), .loc (.d (.int hi)), .loc (.d (.tup [.int r, .int m])), .none, .none] := aB_ok (bp_ok (t' := .d (.int lo)) (t := .d (.int lo)) rfl (pk_ok (t := .d (.int hi)) rfl) rfl e_gt_i)
    have kl : ((known L os lo hi).length : Int) = cnt r m lo hi := by
      rw [known_some m0 hv, prog_len]
      have := cnt_nn (r := r) (lo := lo) (hi := hi) m0
      omega
    rw [kl]
    by_cases hlo : hi < lo
    · rw [decide_eq_true hlo] at T2
      have c0 : cnt r m lo hi = 0 := by unfold cnt; rw [if_pos hlo]
      rw [c0]
      exact fn_rt ((seq_nx (expr_ok V1)).trans ((seq_nx (expr_ok V2)).trans ((seq_nx S4).trans (seq_rt ((ite_t ((or_f T).trans T2)).trans (seq_rt (ret_ok (t := .d (.int 0)) rfl))))))) rfl
    · rw [decide_eq_false hlo] at T2
      have c0 : cnt r m lo hi = (hi - r).fdiv m - (lo - 1 - r).fdiv m := by
        unfold cnt
        rw [if_neg hlo, Int.fdiv_eq_ediv_of_nonneg _ (Int.le_of_lt m0), Int.fdiv_eq_ediv_of_nonneg _ (Int.le_of_lt m0)]
      have mL : m ≤ L := by
        rw [hm]
        have := Int.mul_le_mul_of_nonneg_right (show (1 : Int) ≤ g by omega) (Int.le_of_lt m0)
        omega
      have l1 := h.l1
      have dv : ∀ a : Int, oDiv (.int a) (.int m) = some (.d (.int (a.fdiv m))) := fun a => by rw [e_div_i, if_pos (div64 (by omega) (by omega))]
      have A5 : dAsg (gTup 2 (gCons (gNm 5) (gCons (gNm 6) (gNil)))) (dVar 4) [.loc (.d (.int L)), .loc (.d (OD k os)), .loc (.d (.int lo)), .loc (.d (.int hi)), .loc (.d (.tup [.int r, .int m])), .none, .none] = .ok .nx [.loc (.d (.int L)), .loc (.d (OD k os)), .loc (.d (.int lo)), .loc (.d (.int hi)), .loc (.d (.tup [.int r, .int m])), .loc (.d (.int r)), .loc (.d (.int m))] := asg_ok (vr (x := .tup [.int r, .int m]) rfl) rfl
      have R : dBn oSub (dBn oDiv (dBp oSub 3 (pk 5)) (pk 6)) (frzD (dBn oDiv (dBn oSub (dBp oSub 2 (frzD (dC (.int 1)))) (pk 5)) (pk 6))) [.loc (.d (.int L)), .loc (.d (OD k os)), .loc (.d (.int lo)), .loc (.d (.int hi)), .loc (.d (.tup [.int r, .int m])), .loc (.d (.int r)), .loc (.d (.int m))] = .ok (.d (.int ((hi - r).fdiv m - (lo - 1 - r).fdiv m))) [.loc (.d (.int L)), .loc (.d (OD k os)), .loc (.d (.int lo)), .loc (.d (.int hi)), .loc (.d (.tup [.int r, .int m])), .loc (.d (.int r)), .loc (.d (.int m))] :=
        bn_ok (bn_ok (bp_ok (t' := .d (.int hi)) (t := .d (.int hi)) rfl (pk_ok (t := .d (.int r)) rfl) rfl e_sub_i) (pk_ok (t := .d (.int m)) rfl) (dv _)) (frz_ok (bn_ok (bn_ok (bp_ok (t' := .d (.int lo)) (t := .d (.int lo)) rfl rfl rfl e_sub_i) (pk_ok (t := .d (.int r)) rfl) e_sub_i) (pk_ok (t := .d (.int m)) rfl) (dv _))) e_sub_i
      rw [c0]
      exact fn_rt ((seq_nx (expr_ok V1)).trans ((seq_nx (expr_ok V2)).trans ((seq_nx S4).trans ((seq_nx ((ite_f ((or_f T).trans T2)).trans rfl)).trans ((seq_nx A5).trans (seq_rt (ret_ok R))))))) rfl
end Po

/-! speeds_between, fits -/
namespace Po
open PySem Dn Cd Mo
theorem rng1_ok {ds : Ev → Rs (List D)} {env env1 : Ev} {n : Nat} (h : ds env = .ok [.int n] env1) (hn : n < 2 ^ 62) : dRng rng1D ds env = .ok ((List.range n).map fun i : Nat => D.int i) env1 := dRng1 h hn
theorem rngL_up : ∀ (n : Nat) (lo : Int), rngL lo n = ((List.range n).map fun i : Nat => lo + i).map .int
  | 0, lo => rfl
  | n + 1, lo => by
    unfold rngL
    rw [rngL_up n (lo + 1), List.range_succ_eq_map, List.map_cons, List.map_cons, List.map_map, List.map_map, List.map_map]
    congr 1
    · simp
    · refine List.map_congr_left fun i _ => ?_
      show D.int (lo + 1 + i) = D.int (lo + ((i + 1 : Nat) : Int))
      congr 1; omega
theorem rng2_ok {ds : Ev → Rs (List D)} {env env1 : Ev} {a b : Int} (h : ds env = .ok [.int a, .int b] env1) (h1 : a.natAbs < 2 ^ 60) (h2 : b.natAbs < 2 ^ 60) : dRng rng2D ds env = .ok ((upTo a b).map .int) env1 := by
  refine rng_ok h ?_
  show (if (rngOk a && rngOk b) = true then some (rngL a (b - a).toNat) else none) = _
  have e1 : rngOk a = true := decide_eq_true ⟨by omega, by omega⟩
  have e2 : rngOk b = true := decide_eq_true ⟨by omega, by omega⟩
  rw [e1, e2, Bool.and_self, if_pos rfl, rngL_up]; rfl
theorem speeds_ok {L lo hi : Int} {k : Bool} {os : List Ob} (h : OsOk L os) (few : (known L os lo hi).length ≤ 2000) : F_speeds_between [.d (.int L), .d (OD k os), .d (.int lo), .d (.int hi)] = .ok (.lst ((known L os lo hi).map .int)) [] := by
  obtain ⟨g, m, fs, x, et, hm, g0, m0, ef, hx⟩ := find_ok (k := k) h
  have S4 : dSet 4 (dCallP F_count_speeds 4 [] (dCons (dVar 0) (dCons (dVar 1) (dCons (dVar 2) (dCons (dVar 3) (dNil)))))) [.loc (.d (.int L)), .loc (.d (OD k os)), .loc (.d (.int lo)), .loc (.d (.int hi)), .none, .none, .none, .none, .none] = .ok .nx [.loc (.d (.int L)), .loc (.d (OD k os)), .loc (.d (.int lo)), .loc (.d (.int hi)), .loc (.d (.int (known L os lo hi).length)), .none, .none, .none, .none] :=
    set_ok (call_ok (cons_ok (t := .d (.int L)) rfl (ar3 (i := 1) (j := 2) (k := 3) (x := OD k os) (y := .int lo) (z := .int hi) rfl rfl rfl)) (callP_ok rfl (count_ok h))) rfl
  have T1 : aB (dBp oGt 4 (frzD (dC (.int 2000)))) [.loc (.d (.int L)), .loc (.d (OD k os)), .loc (.d (.int lo)), .loc (.d (.int hi)), .loc (.d (.int (known L os lo hi).length)), .none, .none, .none, .none] = .ok (decide ((2000 : Int) < ((known L os lo hi).length : Int))) [.loc (.d (.int L)), .loc (.d (OD k os)), .loc (.d (.int lo)), .loc (.d (.int hi)), .loc (.d (.int (known L os lo hi).length)), .none, .none, .none, .none] := aB_ok (bp_ok (t' := .d (.int (known L os lo hi).length)) (t := .d (.int (known L os lo hi).length)) rfl rfl rfl e_gt_i)
  rw [decide_eq_false (by omega)] at T1
  have T2 : aB (dBp oEq 4 (frzD (dC (.int 0)))) [.loc (.d (.int L)), .loc (.d (OD k os)), .loc (.d (.int lo)), .loc (.d (.int hi)), .loc (.d (.int (known L os lo hi).length)), .none, .none, .none, .none] = .ok (decide (((known L os lo hi).length : Int) = 0)) [.loc (.d (.int L)), .loc (.d (OD k os)), .loc (.d (.int lo)), .loc (.d (.int hi)), .loc (.d (.int (known L os lo hi).length)), .none, .none, .none, .none] := aB_ok (bp_ok (t' := .d (.int (known L os lo hi).length)) (t := .d (.int (known L os lo hi).length)) rfl rfl rfl (eq_o e_eqD_i))
  unfold F_speeds_between c_speeds_between
  by_cases hz : (known L os lo hi).length = 0
  · rw [decide_eq_true (by omega)] at T2
    have e0 : known L os lo hi = [] := List.length_eq_zero_iff.mp hz
    rw [e0] at *
    exact fn_rt ((seq_nx S4).trans ((seq_nx ((ite_f T1).trans rfl)).trans (seq_rt ((ite_t T2).trans (seq_rt (ret_ok (t := .lst []) rfl)))))) rfl
  · rw [decide_eq_false (by omega)] at T2
    rcases hx with ⟨_, hn⟩ | ⟨r, rfl, r0, r1, hv⟩
    · rw [known_none hn] at hz; exact absurd rfl hz
    · have mL : m ≤ L := by
        rw [hm]
        have := Int.mul_le_mul_of_nonneg_right (show (1 : Int) ≤ g by omega) (Int.le_of_lt m0)
        omega
      have l1 := h.l1
      have ek := known_some (lo := lo) (hi := hi) m0 hv
      have en : (known L os lo hi).length = (cnt r m lo hi).toNat := by rw [ek, prog_len]
      have md : ∀ a : Int, oMod (.int a) (.int m) = some (.d (.int (a.fmod m))) := fun a => by rw [e_mod_i, if_neg (by omega)]
      have e0 : lo + (r - lo).fmod m = lst0 r m lo := by unfold lst0; rw [Int.fmod_eq_emod_of_nonneg _ (Int.le_of_lt m0)]
      have FC := call_ok (F := F_find_class) (n := 2) (dvs := []) (env := [.loc (.d (.int L)), .loc (.d (OD k os)), .loc (.d (.int lo)), .loc (.d (.int hi)), .loc (.d (.int (known L os lo hi).length)), .none, .none, .none, .none]) (ar2 (i := 0) (j := 1) (x := .int L) (y := OD k os) rfl rfl) (callP_ok rfl ef)
      have A5 := asg_ok (g := gTup 2 (gCons (gNm 5) (gCons (gNm 6) (gNil)))) (env2 := [.loc (.d (.int L)), .loc (.d (OD k os)), .loc (.d (.int lo)), .loc (.d (.int hi)), .loc (.d (.int (known L os lo hi).length)), .loc (.d (.int r)), .loc (.d (.int m)), .none, .none]) (ix_ok (dv := frzD (dC (.int 0))) (y := .int 0) (z := .tup [.int r, .int m]) FC rfl e_at_0) rfl
      have S7 : dSet 7 (dBp oAdd 2 (frzD (dBn oMod (dBp oSub 5 (pk 2)) (pk 6)))) [.loc (.d (.int L)), .loc (.d (OD k os)), .loc (.d (.int lo)), .loc (.d (.int hi)), .loc (.d (.int (known L os lo hi).length)), .loc (.d (.int r)), .loc (.d (.int m)), .none, .none] = .ok .nx [.loc (.d (.int L)), .loc (.d (OD k os)), .loc (.d (.int lo)), .loc (.d (.int hi)), .loc (.d (.int (known L os lo hi).length)), .loc (.d (.int r)), .loc (.d (.int m)), .loc (.d (.int (lst0 r m lo))), .none] :=
        set_ok (t := .d (.int (lst0 r m lo))) (by
          have := bp_ok (o := oAdd) (i := 2) (t' := .d (.int lo)) (t := .d (.int lo)) (env := [.loc (.d (.int L)), .loc (.d (OD k os)), .loc (.d (.int lo)), .loc (.d (.int hi)), .loc (.d (.int (known L os lo hi).length)), .loc (.d (.int r)), .loc (.d (.int m)), .none, .none]) rfl (frz_ok (bn_ok (bp_ok (o := oSub) (i := 5) (t' := .d (.int r)) (t := .d (.int r)) rfl (pk_ok (i := 2) (t := .d (.int lo)) rfl) rfl e_sub_i) (pk_ok (i := 6) (t := .d (.int m)) rfl) (md _))) rfl e_add_i
          rw [e0] at this
          exact this) rfl
      have M : ∀ i ∈ List.range (known L os lo hi).length, turnD [8] (gNm 8) (dYes) (dBp oAdd 7 (frzD (dBp oMul 8 (pk 6)))) (D.int (i : Nat)) [.loc (.d (.int L)), .loc (.d (OD k os)), .loc (.d (.int lo)), .loc (.d (.int hi)), .loc (.d (.int (known L os lo hi).length)), .loc (.d (.int r)), .loc (.d (.int m)), .loc (.d (.int (lst0 r m lo))), .none] = .ok (some (D.int (lst0 r m lo + i * m))) [.loc (.d (.int L)), .loc (.d (OD k os)), .loc (.d (.int lo)), .loc (.d (.int hi)), .loc (.d (.int (known L os lo hi).length)), .loc (.d (.int r)), .loc (.d (.int m)), .loc (.d (.int (lst0 r m lo))), .none] := fun i hi2 => by
        have hi3 := List.mem_range.mp hi2
        have ml : oMul (.int (i : Nat)) (.int m) = some (.d (.int (i * m))) := by rw [e_mul_i, if_pos (mul64 (by omega) (by omega))]
        exact turn_map (env1 := [.loc (.d (.int L)), .loc (.d (OD k os)), .loc (.d (.int lo)), .loc (.d (.int hi)), .loc (.d (.int (known L os lo hi).length)), .loc (.d (.int r)), .loc (.d (.int m)), .loc (.d (.int (lst0 r m lo))), .loc (.d (.int (i : Nat)))]) rfl (emD_ok (bp_ok (t' := .d (.int (lst0 r m lo))) (t := .d (.int (lst0 r m lo))) rfl (frz_ok (bp_ok (t' := .d (.int (i : Nat))) (t := .d (.int (i : Nat))) rfl (pk_ok (t := .d (.int m)) rfl) rfl ml)) rfl e_add_i)) rfl
      have LC := comp_lc (ws := [8]) (it := dRng rng1D (dCons (dVar 4) (dNil))) (env := [.loc (.d (.int L)), .loc (.d (OD k os)), .loc (.d (.int lo)), .loc (.d (.int hi)), .loc (.d (.int (known L os lo hi).length)), .loc (.d (.int r)), .loc (.d (.int m)), .loc (.d (.int (lst0 r m lo))), .none]) (env1 := [.loc (.d (.int L)), .loc (.d (OD k os)), .loc (.d (.int lo)), .loc (.d (.int hi)), .loc (.d (.int (known L os lo hi).length)), .loc (.d (.int r)), .loc (.d (.int m)), .loc (.d (.int (lst0 r m lo))), .none]) (rng1_ok (ar1 (i := 4) (x := .int ((known L os lo hi).length : Nat)) rfl) (by omega)) (by rw [List.length_map, List.length_range]; omega) rfl rfl (compL_map M) rfl
      have el : ((List.range (known L os lo hi).length).map fun i : Nat => D.int (lst0 r m lo + i * m)) = (known L os lo hi).map .int := by
        rw [en]
        conv => rhs; rw [ek]
        unfold prog
        rw [List.map_map]; rfl
      rw [el] at LC
      exact fn_rt ((seq_nx S4).trans ((seq_nx ((ite_f T1).trans rfl)).trans ((seq_nx ((ite_f T2).trans rfl)).trans ((seq_nx A5).trans ((seq_nx S7).trans (seq_rt (ret_ok LC))))))) rfl
theorem fits_ok {L v : Int} {k : Bool} {os : List Ob} (h : OsOk L os) (hv : v.natAbs < 2 ^ 60) : F__law_fits [.d (.int L), .d (OD k os), .d (.int v)] = .ok (.d (.bool (fitsB L os v))) [] := by
  have l0 := h.l0
  have few := h.few
  have md : ∀ a : Int, oMod (.int a) (.int L) = some (.d (.int (a.fmod L))) := fun a => by rw [e_mod_i, if_neg (by omega)]
  have M : ∀ o ∈ os, turnD [3, 4] (gTup 2 (gCons (gNm 3) (gCons (gNm 4) (gNil)))) (aB (dBn oNe (dBn oMod (dBn oSub (dBp oMul 3 (pk 2)) (pk 4)) (pk 0)) (frzD (dC (.int 0))))) (dVar 3) (pD o) [.loc (.d (.int L)), .loc (.d (OD k os)), .loc (.d (.int v)), .none, .none] = .ok (if (!decide ((o.1 * v - o.2) % L = 0)) = true then some (D.int o.1) else none) [.loc (.d (.int L)), .loc (.d (OD k os)), .loc (.d (.int v)), .none, .none] := fun o ho => by
    obtain ⟨t0, t1⟩ := h.t o ho
    have ml : oMul (.int o.1) (.int v) = some (.d (.int (o.1 * v))) := by rw [e_mul_i, if_pos (mulOk_of (k := 8) (l := 60) (by omega) hv (by decide) (by decide) (by decide))]
    have T : aB (dBn oNe (dBn oMod (dBn oSub (dBp oMul 3 (pk 2)) (pk 4)) (pk 0)) (frzD (dC (.int 0)))) [.loc (.d (.int L)), .loc (.d (OD k os)), .loc (.d (.int v)), .loc (.d (.int o.1)), .loc (.d (.int o.2))] = .ok (!decide ((o.1 * v - o.2).fmod L = 0)) [.loc (.d (.int L)), .loc (.d (OD k os)), .loc (.d (.int v)), .loc (.d (.int o.1)), .loc (.d (.int o.2))] :=
      ne_ev (bn_ok (bn_ok (bp_ok (t' := .d (.int o.1)) (t := .d (.int o.1)) rfl (pk_ok (t := .d (.int v)) rfl) rfl ml) (pk_ok (t := .d (.int o.2)) rfl) e_sub_i) (pk_ok (t := .d (.int L)) rfl) (md _)) rfl e_eqD_i
    rw [Int.fmod_eq_emod_of_nonneg _ (Int.le_of_lt l0)] at T
    exact turn_filter rfl T (emD_ok (vr (x := .int o.1) rfl)) rfl
  have LC := comp_lc (ws := [3, 4]) (it := dIt (dVar 1)) (env := [.loc (.d (.int L)), .loc (.d (OD k os)), .loc (.d (.int v)), .none, .none]) (env1 := [.loc (.d (.int L)), .loc (.d (OD k os)), .loc (.d (.int v)), .none, .none]) (it_ok (t := .d (OD k os)) (vr rfl) OD_items) (by rw [List.length_map]; omega) rfl rfl (compL_filter M) rfl
  have eq : eqD (.list ((os.filter fun o => !decide ((o.1 * v - o.2) % L = 0)).map fun o => D.int o.1)) (.list []) = some (fitsB L os v) := by
    by_cases hf : fitsB L os v = true
    · have e0 : (os.filter fun o => !decide ((o.1 * v - o.2) % L = 0)) = [] := List.filter_eq_nil_iff.mpr fun o ho z => by
        have := List.all_eq_true.mp hf o ho
        rw [this] at z; cases z
      rw [e0, hf]
      exact eqD_refl (EqOk.list (n := 0) fun d hd => by cases hd) (by decide)
    · have ef : fitsB L os v = false := by simpa using hf
      rw [ef]
      cases hq : (os.filter fun o => !decide ((o.1 * v - o.2) % L = 0)) with
      | nil =>
        refine absurd (List.all_eq_true.mpr fun o ho => ?_) hf
        have := List.filter_eq_nil_iff.mp hq o ho
        simpa using this
      | cons o r => exact eqD_nil (n := 1) (EqOk.list fun d hd => by
          obtain ⟨o2, _, rfl⟩ := List.mem_map.mp (show d ∈ (o :: r).map fun o : Ob => D.int o.1 from hd)
          exact .int _) (by decide)
  unfold F__law_fits c__law_fits
  exact fn_rt (seq_rt (ret_ok (bn_ok LC rfl (eq_o eq)))) rfl
end Po

/-! the next look -/
namespace Mo
open Dn
theorem usrt_nodup (l : List Int) : (usrt l).length ≤ l.length ∧ ((usrt l).length = l.length ↔ l.Nodup) := by
  refine rev_ind (P := fun l => (usrt l).length ≤ l.length ∧ ((usrt l).length = l.length ↔ l.Nodup)) ⟨Nat.le_refl _, ⟨fun _ => .nil, fun _ => rfl⟩⟩ (fun l a ⟨h1, h2⟩ => ?_) l
  obtain ⟨u1, u2, _⟩ := usrt_ok l
  rw [usrt_snoc, insU_len a u1, List.length_append, List.nodup_append]
  by_cases h : a ∈ usrt l
  · rw [if_pos h]
    have ha : a ∈ l := (u2 a).mp h
    exact ⟨by simp; omega, ⟨fun e => by simp at e; omega, fun e => absurd rfl (e.2.2 a ha a (by simp))⟩⟩
  · rw [if_neg h]
    have ha : a ∉ l := fun z => h ((u2 a).mpr z)
    refine ⟨by simp; omega, ⟨fun e => ⟨h2.mp (by simp at e; omega), by simp, fun x hx y hy => ?_⟩, fun e => ?_⟩⟩
    · rw [List.mem_singleton.mp hy]
      exact fun z => ha (z ▸ hx)
    · have := h2.mpr e.1
      simp; omega
theorem srt_len : ∀ (l : List Int) (a N : Int), l.Pairwise (· < ·) → (∀ x ∈ l, a ≤ x ∧ x < N) → a ≤ N → (l.length : Int) ≤ N - a
  | [], a, N, _, _, h => by simp; omega
  | x :: l, a, N, p, h, _ => by
    obtain ⟨p1, p2⟩ := List.pairwise_cons.mp p
    obtain ⟨h1, h2⟩ := h x List.mem_cons_self
    have := srt_len l (x + 1) N p2 (fun y hy => ⟨by have := p1 y hy; omega, (h y (List.mem_cons_of_mem _ hy)).2⟩) (by omega)
    rw [List.length_cons]; omega
end Mo
namespace Po
open PySem Dn Cd Mo
abbrev eL (L : Int) (kn : List Int) (t : Int) (s3 s4 : Slot) : Ev := [.loc (.d (.int L)), .loc (.d (.list (kn.map .int))), .loc (.d (.int t)), s3, s4, .none]
section
variable {L t : Int} {kn : List Int}
theorem ll_step {s : Int} {s4 : Slot} (l0 : 0 < L) (l1 : L ≤ 60) (hk : kn.length ≤ 1000) (hb : ∀ v ∈ kn, v.natAbs < 2 ^ 60) (hs : s.natAbs < 2 ^ 61) (p4 : isPar s4 = false) :
    c__law_look_0 (eL L kn t (.loc (.d (.int s))) s4) = (if (kn.map fun v => v * s % L).Nodup then .ok (.rt (.d (.int s))) (setS (eL L kn t (.loc (.d (.int s))) (.loc (.d (.list ((kn.map fun v => v * s % L).map .int))))) 3 (.loc (.d .none))) else .ok .nx (eL L kn t (.loc (.d (.int s))) (.loc (.d (.list ((kn.map fun v => v * s % L).map .int)))))) := by
  have md : ∀ a : Int, oMod (.int a) (.int L) = some (.d (.int (a.fmod L))) := fun a => by rw [e_mod_i, if_neg (by omega)]
  have M : ∀ v ∈ kn, turnD [5] (gNm 5) (dYes) (dBn oMod (dBp oMul 5 (pk 3)) (pk 0)) (D.int v) (eL L kn t (.loc (.d (.int s))) s4) = .ok (some (D.int (v * s % L))) (eL L kn t (.loc (.d (.int s))) s4) := fun v hv => by
    have ml : oMul (.int v) (.int s) = some (.d (.int (v * s))) := by rw [e_mul_i, if_pos (mulOk_of (k := 60) (l := 61) (hb v hv) hs (by decide) (by decide) (by decide))]
    have e : (v * s).fmod L = v * s % L := Int.fmod_eq_emod_of_nonneg _ (Int.le_of_lt l0)
    have := turn_map (ws := [5]) (g := gNm 5) (x := .int v) (env := eL L kn t (.loc (.d (.int s))) s4) (env1 := [.loc (.d (.int L)), .loc (.d (.list (kn.map .int))), .loc (.d (.int t)), .loc (.d (.int s)), s4, .loc (.d (.int v))]) (env3 := eL L kn t (.loc (.d (.int s))) s4) rfl (emD_ok (bn_ok (bp_ok (o := oMul) (i := 5) (t' := .d (.int v)) (t := .d (.int v)) rfl (pk_ok (i := 3) (t := .d (.int s)) rfl) rfl ml) (pk_ok (i := 0) (t := .d (.int L)) rfl) (md _))) (by simp)
    rw [e] at this
    exact this
  have LC := comp_lc (ws := [5]) (it := dIt (dVar 1)) (env := eL L kn t (.loc (.d (.int s))) s4) (env1 := eL L kn t (.loc (.d (.int s))) s4) (env2 := eL L kn t (.loc (.d (.int s))) s4) (env4 := eL L kn t (.loc (.d (.int s))) s4) (it_ok (t := .d (.list (kn.map .int))) (vr rfl) rfl) (by rw [List.length_map]; omega) rfl rfl (compL_map M) rfl
  have em : (kn.map fun v => D.int (v * s % L)) = (kn.map fun v => v * s % L).map .int := by rw [List.map_map]; rfl
  rw [em] at LC
  have S4 := set_ok (i := 4) (env2 := eL L kn t (.loc (.d (.int s))) (.loc (.lst ((kn.map fun v => v * s % L).map .int)))) LC (by simp [p4])
  have pl : (kn.map fun v => v * s % L).length ≤ 1000 := by rw [List.length_map]; exact hk
  have pr : ∀ x ∈ kn.map fun v => v * s % L, 0 ≤ x ∧ x < L := fun x hx => by
    obtain ⟨v, _, rfl⟩ := List.mem_map.mp hx
    exact ⟨Int.emod_nonneg _ (by omega), Int.emod_lt_of_pos _ l0⟩
  generalize (kn.map fun v => v * s % L) = ps at *
  obtain ⟨u1, u2, _⟩ := usrt_ok ps
  have ul := srt_len (usrt ps) 0 L u1 (fun x hx => pr x ((u2 x).mp hx)) (by omega)
  obtain ⟨_, un⟩ := usrt_nodup ps
  have SS : frzD (dSortSet (dVar 4)) (eL L kn t (.loc (.d (.int s))) (.loc (.lst (ps.map .int)))) = .ok (.list ((usrt ps).map .int)) (eL L kn t (.loc (.d (.int s))) (.loc (.d (.list (ps.map .int))))) := by
    refine frz_ok (t := .lst ((usrt ps).map .int)) ?_
    have V : dVar 4 (eL L kn t (.loc (.d (.int s))) (.loc (.lst (ps.map .int)))) = .ok (.d (.list (ps.map .int))) (eL L kn t (.loc (.d (.int s))) (.loc (.d (.list (ps.map .int))))) := rfl
    unfold dSortSet
    rw [V, e_bindD_ok]
    show (match intsD (ps.map .int) with | some ns => _ | none => _) = _
    rw [intsD_map]
    dsimp only
    rw [if_pos ⟨pl, by omega⟩]
  have o1 : ∀ xs : List Int, oLen (.list (xs.map D.int)) = some (.d (.int (xs.length : Nat))) := fun xs => by
    show some (T.d (.int ((xs.map D.int).length : Nat))) = _
    rw [List.length_map]
  have TT : aB (dBn oEq (dB1 oLen (frzD (dSortSet (dVar 4)))) (frzD (dB1 oLen (pk 4)))) (eL L kn t (.loc (.d (.int s))) (.loc (.lst (ps.map .int)))) = .ok (decide ((((usrt ps).length : Nat) : Int) = ((ps.length : Nat) : Int))) (eL L kn t (.loc (.d (.int s))) (.loc (.d (.list (ps.map .int))))) :=
    eq_ev (b1_ok SS (o1 _)) (frz_ok (b1_ok (pk_ok (t := .d (.list (ps.map .int))) rfl) (o1 _))) e_eqD_i
  unfold c__law_look_0
  by_cases hn : ps.Nodup
  · rw [decide_eq_true (by have := un.mpr hn; omega)] at TT
    rw [if_pos hn]
    exact (seq_nx S4).trans (seq_rt ((ite_t TT).trans (seq_rt (retV_ok rfl))))
  · rw [decide_eq_false (fun z => hn (un.mp (by omega)))] at TT
    rw [if_neg hn]
    exact (seq_nx S4).trans (seq_nx (ite_f TT))
theorem ll_loop {ok : Int → Prop} (l0 : 0 < L) (l1 : L ≤ 60) (hk : kn.length ≤ 1000) (hb : ∀ v ∈ kn, v.natAbs < 2 ^ 60) (ho : ∀ s, (kn.map fun v => v * s % L).Nodup ↔ ok s) : ∀ (n k : Nat) (a : Int) (s3 s4 : Slot), isPar s3 = false → isPar s4 = false → 0 ≤ a → a + n ≤ 2 ^ 60 → (∀ j : Nat, j < k → ¬ ok (a + j)) →
    (n ≤ k → ∃ e, backs e = [] ∧ forL (gNm 3) c__law_look_0 (((List.range n).map fun i : Nat => a + i).map .int) (eL L kn t s3 s4) = .ok .nx e) ∧
    (k < n → ok (a + k) → ∃ e, backs e = [] ∧ forL (gNm 3) c__law_look_0 (((List.range n).map fun i : Nat => a + i).map .int) (eL L kn t s3 s4) = .ok (.rt (.d (.int (a + k)))) e)
  | 0, k, a, s3, s4, p3, p4, _, _, _ => ⟨fun _ => ⟨_, backs_none (by simp [p3, p4]), rfl⟩, fun h => absurd h (Nat.not_lt_zero _)⟩
  | n + 1, k, a, s3, s4, p3, p4, a0, a1, hj => by
    have er : (((List.range (n + 1)).map fun i : Nat => a + i).map D.int) = .int a :: (((List.range n).map fun i : Nat => a + 1 + i).map D.int) := by
      rw [List.range_succ_eq_map, List.map_cons, List.map_cons, List.map_map, List.map_map, List.map_map]
      congr 1
      · simp
      · refine List.map_congr_left fun i _ => ?_
        show D.int (a + ((i + 1 : Nat) : Int)) = D.int (a + 1 + i)
        congr 1; omega
    rw [er]
    have g1 : gNm 3 (.int a) (eL L kn t s3 s4) = some (eL L kn t (.loc (.d (.int a))) s4) := by simp [p3]
    have st := ll_step (t := t) (s := a) (s4 := s4) l0 l1 hk hb (by omega) p4
    cases k with
    | zero =>
      refine ⟨fun h => absurd h (by omega), fun _ h => ?_⟩
      have h : ok a := by simpa using h
      rw [if_pos ((ho a).mpr h)] at st
      refine ⟨setS (eL L kn t (.loc (.d (.int a))) (.loc (.d (.list ((kn.map fun v => v * a % L).map .int))))) 3 (.loc (.d .none)), rfl, ?_⟩
      have e0 : a + ((0 : Nat) : Int) = a := by omega
      rw [e0]
      exact for_ret g1 st
    | succ k =>
      have na : ¬ ok a := by simpa using hj 0 (by omega)
      rw [if_neg (fun z => na ((ho a).mp z))] at st
      obtain ⟨i1, i2⟩ := ll_loop l0 l1 hk hb ho n k (a + 1) (.loc (.d (.int a))) (.loc (.d (.list ((kn.map fun v => v * a % L).map .int)))) rfl rfl (by omega) (by omega) (fun j hj2 => by
        have := hj (j + 1) (by omega)
        have e : a + ((j + 1 : Nat) : Int) = a + 1 + j := by omega
        rw [e] at this; exact this)
      refine ⟨fun h => ?_, fun h1 h2 => ?_⟩
      · obtain ⟨e, he, w⟩ := i1 (by omega)
        exact ⟨e, he, (for_step g1 st).trans w⟩
      · have e : a + ((k + 1 : Nat) : Int) = a + 1 + k := by omega
        rw [e] at h2 ⊢
        obtain ⟨e2, he, w⟩ := i2 (by omega) h2
        exact ⟨e2, he, (for_step g1 st).trans w⟩
end
end Po

/-! the next look, twice -/
namespace Po
open PySem Dn Cd Mo
abbrev eN (L : Int) (O : D) (lo hi t n g w : Int) : Ev := [.loc (.d (.int L)), .loc (.d O), .loc (.d (.int lo)), .loc (.d (.int hi)), .loc (.d (.int t)), .loc (.d (.int n)), .loc (.d (.int g)), .loc (.d (.int w))]
theorem nl_cond {L lo hi t n g w : Int} {O : D} (g0 : 0 < g) (g1 : g < 128) : aB (dBn oLt (dBp oDiv 6 (frzD (dCallP F_common_divisor 2 [] (dCons (dVar 7) (dCons (dVar 6) (dNil)))))) (pk 5)) (eN L O lo hi t n g w) = .ok (decide (¬ n ≤ g / (Int.gcd w g : Int))) (eN L O lo hi t n g w) := by
  have hp : (0 : Int) < (Int.gcd w g : Int) := by
    have : 0 < Int.gcd w g := Int.gcd_pos_of_ne_zero_right _ (by omega)
    omega
  have hl : ((Int.gcd w g : Nat) : Int) ≤ g := Int.le_of_dvd g0 (Int.gcd_dvd_right ..)
  have dv : ∀ a : Int, oDiv (.int a) (.int (Int.gcd w g : Int)) = some (.d (.int (a.fdiv (Int.gcd w g : Int)))) := fun a => by rw [e_div_i, if_pos (div64 (by omega) (by omega))]
  have e := Int.fdiv_eq_ediv_of_nonneg g (Int.le_of_lt hp)
  have CD : frzD (dCallP F_common_divisor 2 [] (dCons (dVar 7) (dCons (dVar 6) (dNil)))) (eN L O lo hi t n g w) = .ok (.int (Int.gcd w g : Int)) (eN L O lo hi t n g w) := frz_ok (t := .d (.int (Int.gcd w g : Int))) (call_ok (ar2 (i := 7) (j := 6) (x := .int w) (y := .int g) rfl rfl) (callP_ok rfl (common_divisor w g)))
  have := aB_ok (bn_ok (bp_ok (o := oDiv) (i := 6) (t' := .d (.int g)) (t := .d (.int g)) rfl CD rfl (dv g)) (pk_ok (i := 5) (t := .d (.int n)) rfl) e_lt_i)
  rw [this, e]
  congr 1
  rw [Bool.eq_iff_iff]
  simp only [decide_eq_true_eq]
  omega
theorem nl_while {L lo hi t n g : Int} {O : D} (g0 : 0 < g) (g1 : g < 128) : ∀ (k : Nat) (w : Int), (∀ j : Nat, j < k → ¬ n ≤ g / (Int.gcd (w + j) g : Int)) → n ≤ g / (Int.gcd (w + k) g : Int) → dWhile (aB (dBn oLt (dBp oDiv 6 (frzD (dCallP F_common_divisor 2 [] (dCons (dVar 7) (dCons (dVar 6) (dNil)))))) (pk 5))) c_next_look_0 (eN L O lo hi t n g w) = .ok .nx (eN L O lo hi t n g (w + k))
  | 0, w, _, h => by
    have e : w + ((0 : Nat) : Int) = w := by omega
    rw [e] at h ⊢
    refine dWhile_stop ?_
    rw [nl_cond g0 g1, decide_eq_false (fun z => z h)]
  | k + 1, w, hj, h => by
    have n0 : ¬ n ≤ g / (Int.gcd w g : Int) := by simpa using hj 0 (by omega)
    have C := nl_cond (L := L) (lo := lo) (hi := hi) (t := t) (n := n) (g := g) (w := w) (O := O) g0 g1
    rw [decide_eq_true n0] at C
    have e : w + ((k + 1 : Nat) : Int) = w + 1 + k := by omega
    rw [e] at h ⊢
    have ih := nl_while (L := L) (lo := lo) (hi := hi) (t := t) (O := O) g0 g1 k (w + 1) (fun j hj2 => by
      have := hj (j + 1) (by omega)
      have e : w + ((j + 1 : Nat) : Int) = w + 1 + j := by omega
      rw [e] at this; exact this) h
    rw [← ih]
    have st : c_next_look_0 (eN L O lo hi t n g w) = .ok .nx (eN L O lo hi t n g (w + 1)) := seq_nx (s2 := dSkip) (show dAug 7 (fun a b => a + b) (dC (.int 1)) (eN L O lo hi t n g w) = .ok .nx (eN L O lo hi t n g (w + 1)) from rfl)
    exact dWhile_step C st
theorem look_ok {L lo hi t : Int} {k : Bool} {os : List Ob} (h : OsOk L os) (hL : L ≤ 60) (hlo : lo.natAbs < 2 ^ 20) (hhi : hi.natAbs < 2 ^ 20) (few : (known L os lo hi).length ≤ 1000) (t0 : 0 ≤ t) (t1 : t < 2 ^ 40) :
    ∃ x : D, F_next_look [.d (.int L), .d (OD k os), .d (.int lo), .d (.int hi), .d (.int t)] = .ok (.d x) [] ∧ F__law_look [.d (.int L), .d (.list ((known L os lo hi).map .int)), .d (.int t)] = .ok (.d x) [] ∧ (x = .none ∨ ∃ j : Int, x = .int j) := by
  obtain ⟨g, m, fs, x, et, hm, g0, m0, ef, hx⟩ := find_ok (k := k) h
  have l0 := h.l0
  have l1 := h.l1
  have gL : g ≤ L := by
    rw [hm]
    have := Int.mul_le_mul_of_nonneg_left (show (1 : Int) ≤ m by omega) (Int.le_of_lt g0)
    omega
  obtain ⟨a, ek⟩ : ∃ a, known L os lo hi = prog a m (known L os lo hi).length := by
    rcases hx with ⟨_, hn⟩ | ⟨r, _, _, _, hv⟩
    · exact ⟨0, by rw [known_none hn]; rfl⟩
    · refine ⟨lst0 r m lo, ?_⟩
      have := known_some (lo := lo) (hi := hi) m0 hv
      have e2 : (known L os lo hi).length = (cnt r m lo hi).toNat := by rw [this, prog_len]
      rw [e2]; exact this
  have kb : ∀ v ∈ known L os lo hi, v.natAbs < 2 ^ 60 := fun v hv => by
    have := upTo_mem.mp (List.mem_filter.mp hv).1
    omega
  have ho : ∀ s, ((known L os lo hi).map fun v => v * s % L).Nodup ↔ ((known L os lo hi).length : Int) ≤ g / (Int.gcd s g : Int) := fun s => by
    have := apart (L := L) (g := g) (m := m) (s := s) (a := a) (n := (known L os lo hi).length) hm g0 m0
    rw [← ek] at this
    exact this
  have S5 : dSet 5 (dCallP F_count_speeds 4 [] (dCons (dVar 0) (dCons (dVar 1) (dCons (dVar 2) (dCons (dVar 3) (dNil)))))) [.loc (.d (.int L)), .loc (.d (OD k os)), .loc (.d (.int lo)), .loc (.d (.int hi)), .loc (.d (.int t)), .none, .none, .none] = .ok .nx [.loc (.d (.int L)), .loc (.d (OD k os)), .loc (.d (.int lo)), .loc (.d (.int hi)), .loc (.d (.int t)), .loc (.d (.int (known L os lo hi).length)), .none, .none] :=
    set_ok (call_ok (cons_ok (t := .d (.int L)) rfl (ar3 (i := 1) (j := 2) (k := 3) (x := OD k os) (y := .int lo) (z := .int hi) rfl rfl rfl)) (callP_ok rfl (count_ok h))) rfl
  have T1 : dOr (dNot (dTru (frzD (dCallP F_is_integer 1 [] (dCons (dVar 4) (dNil)))))) (aB (dBp oLt 4 (frzD (dC (.int 0))))) [.loc (.d (.int L)), .loc (.d (OD k os)), .loc (.d (.int lo)), .loc (.d (.int hi)), .loc (.d (.int t)), .loc (.d (.int (known L os lo hi).length)), .none, .none] = .ok (decide (t < 0)) [.loc (.d (.int L)), .loc (.d (OD k os)), .loc (.d (.int lo)), .loc (.d (.int hi)), .loc (.d (.int t)), .loc (.d (.int (known L os lo hi).length)), .none, .none] :=
    (or_f (not_call (b := true) (ar1 (i := 4) (x := .int t) rfl) (callP_1 (is_int t)))).trans (aB_ok (bp_ok (t' := .d (.int t)) (t := .d (.int t)) rfl rfl rfl e_lt_i))
  rw [decide_eq_false (by omega)] at T1
  have S6 : dSet 6 (dIx (dCallP F_combined_times 2 [] (dCons (dVar 0) (dCons (dVar 1) (dNil)))) (frzD (dC (.int 0)))) [.loc (.d (.int L)), .loc (.d (OD k os)), .loc (.d (.int lo)), .loc (.d (.int hi)), .loc (.d (.int t)), .loc (.d (.int (known L os lo hi).length)), .none, .none] = .ok .nx [.loc (.d (.int L)), .loc (.d (OD k os)), .loc (.d (.int lo)), .loc (.d (.int hi)), .loc (.d (.int t)), .loc (.d (.int (known L os lo hi).length)), .loc (.d (.int g)), .none] :=
    set_ok (ix_ok (dv := frzD (dC (.int 0))) (y := .int 0) (z := .int g) (call_ok (ar2 (i := 0) (j := 1) (x := .int L) (y := OD k os) rfl rfl) (callP_ok rfl et)) rfl e_at_0) rfl
  have T2 : aB (dBp oGt 5 (pk 6)) [.loc (.d (.int L)), .loc (.d (OD k os)), .loc (.d (.int lo)), .loc (.d (.int hi)), .loc (.d (.int t)), .loc (.d (.int (known L os lo hi).length)), .loc (.d (.int g)), .none] = .ok (decide (g < ((known L os lo hi).length : Int))) [.loc (.d (.int L)), .loc (.d (OD k os)), .loc (.d (.int lo)), .loc (.d (.int hi)), .loc (.d (.int t)), .loc (.d (.int (known L os lo hi).length)), .loc (.d (.int g)), .none] := aB_ok (bp_ok (t' := .d (.int (known L os lo hi).length)) (t := .d (.int (known L os lo hi).length)) rfl (pk_ok (i := 6) (t := .d (.int g)) rfl) rfl e_gt_i)
  have RG : dRng rng2D (dCons (dBp oAdd 2 (frzD (dC (.int 1)))) (dCons (dBn oAdd (dBp oAdd 2 (frzD (dC (.int 1)))) (pk 0)) (dNil))) (eL L (known L os lo hi) t .none .none) = .ok ((Mo.upTo (t + 1) (t + 1 + L)).map .int) (eL L (known L os lo hi) t .none .none) := by
    have A : dBp oAdd 2 (frzD (dC (.int 1))) (eL L (known L os lo hi) t .none .none) = .ok (.d (.int (t + 1))) (eL L (known L os lo hi) t .none .none) := bp_ok (t' := .d (.int t)) (t := .d (.int t)) rfl rfl rfl e_add_i
    exact rng2_ok (cons_ok A (cons_ok (t := .d (.int (t + 1 + L))) (bn_ok A (pk_ok (t := .d (.int L)) rfl) e_add_i) nil_ok)) (by omega) (by omega)
  have eu : Mo.upTo (t + 1) (t + 1 + L) = (List.range L.toNat).map fun i : Nat => t + 1 + i := by
    unfold Mo.upTo
    have : (t + 1 + L - (t + 1)).toNat = L.toNat := by omega
    rw [this]
  have LP := fun kk hj => ll_loop (t := t) (kn := known L os lo hi) (ok := fun s => ((known L os lo hi).length : Int) ≤ g / (Int.gcd s g : Int)) l0 hL few kb ho L.toNat kk (t + 1) .none .none rfl rfl (by omega) (by omega) hj
  rw [← eu] at LP
  generalize hn : ((known L os lo hi).length : Int) = n at *
  by_cases hg : n ≤ g
  · rw [decide_eq_false (by omega)] at T2
    obtain ⟨k0, hk0, ok0⟩ := step_exists (t := t) g0 hg
    obtain ⟨k1, hk1, ok1, nok⟩ := first_of (fun s => n ≤ g / (Int.gcd s g : Int)) k0 t ok0
    refine ⟨.int (t + 1 + k1), ?_, ?_, .inr ⟨_, rfl⟩⟩
    · have S7 : dSet 7 (dBp oAdd 4 (frzD (dC (.int 1)))) [.loc (.d (.int L)), .loc (.d (OD k os)), .loc (.d (.int lo)), .loc (.d (.int hi)), .loc (.d (.int t)), .loc (.d (.int n)), .loc (.d (.int g)), .none] = .ok .nx (eN L (OD k os) lo hi t n g (t + 1)) := set_ok (bp_ok (t' := .d (.int t)) (t := .d (.int t)) rfl rfl rfl e_add_i) rfl
      have W := nl_while (L := L) (lo := lo) (hi := hi) (t := t) (O := OD k os) g0 (by omega) k1 (t + 1) nok ok1
      unfold F_next_look c_next_look
      exact fn_rt ((seq_nx S5).trans ((seq_nx ((ite_f T1).trans rfl)).trans ((seq_nx S6).trans ((seq_nx ((ite_f T2).trans rfl)).trans ((seq_nx S7).trans ((seq_nx W).trans (seq_rt (retV_ok rfl)))))))) rfl
    · obtain ⟨e, he, w⟩ := (LP k1 nok).2 (by omega) ok1
      unfold F__law_look c__law_look
      exact fn_rt (seq_rt ((for_ok RG).trans w)) he
  · rw [decide_eq_true (by omega)] at T2
    refine ⟨.none, ?_, ?_, .inl rfl⟩
    · unfold F_next_look c_next_look
      exact fn_rt ((seq_nx S5).trans ((seq_nx ((ite_f T1).trans rfl)).trans ((seq_nx S6).trans (seq_rt ((ite_t T2).trans (seq_rt (ret_ok (t := .d .none) rfl))))))) rfl
    · obtain ⟨e, he, w⟩ := (LP L.toNat (fun j _ => step_none g0 (by omega))).1 (Nat.le_refl _)
      unfold F__law_look c__law_look
      exact fn_rt ((seq_nx ((for_ok RG).trans w)).trans (seq_rt (ret_ok (t := .d .none) rfl))) he
end Po

/-! what the law draws -/
namespace Po
open PySem Dn Cd Mo
theorem PlOk.up {ns : List Int} {a b : Nat} {t : T} (h : PlOk ns a t) (l : a ≤ b) : PlOk ns b t := let ⟨i, c, n, e, n0, n1⟩ := h; ⟨i, c, n, e, n0, by omega⟩
theorem pool_ok {ns : List Int} (h : ns.length ≤ 63) : F__law_pool [.d (.scr ns)] = .ok (poolP ns 0 0 0) [] := by
  have cut : cutD (ns.map D.int) none (some 63) = ns.map D.int := by
    unfold cutD
    have e0 : HT.sIx (ns.map D.int).length 0 none = 0 := rfl
    have e1 : HT.sIx (ns.map D.int).length (ns.map D.int).length (some 63) = (ns.map D.int).length := by
      rw [List.length_map]
      unfold HT.sIx
      first
        | (simp; omega)
        | (dsimp only; split <;> omega)
    rw [e0, e1, List.drop_zero, Nat.sub_zero, List.take_length]
  have S : dSl (dVar 0) (oNo) (oSm (dC (.int 63))) [.loc (.d (.scr ns))] = .ok (.lst (ns.map .int)) [.loc (.d (.scr ns))] := by
    show ofO (sliceD none (some 63) (.scr ns)) _ = _
    show ofO (some (T.lst (cutD (ns.map D.int) none (some 63)))) _ = _
    rw [cut]; rfl
  have R := lst_ok (cons_ok S (cons_ok (d := dC (.int 0)) (t := .d (.int 0)) rfl (cons_ok (d := dC (.int 0)) (t := .d (.int 0)) rfl (cons_ok (d := dC (.int 0)) (t := .d (.int 0)) rfl nil_ok)))) (by show 4 ≤ sizeLine; decide)
  unfold F__law_pool c__law_pool
  exact fn_rt (seq_rt (ret_ok R)) rfl
theorem draw_c {ns : List Int} {b : Nat} {t : T} {m : Int} (h : PlOk ns b t) (hl : ns.length ≤ 63) (hb : b ≤ 1000000) (h1 : 1 ≤ m) (h2 : m < 1000) : ∃ v t', PlOk ns (b + 1) t' ∧ 0 ≤ v ∧ v < m ∧ ∀ (env : Ev) (i : Nat), treeS (getS env i) = some t → dCallO m__law_draw F__law_draw [] (rO i (rD (dC (.int m)) rNil)) env = .ok (.d (.int v)) (setS env i (reS (getS env i) t')) := by
  obtain ⟨v, t', k, a, c, e⟩ := draw_ok h hl hb h1 h2
  refine ⟨v, t', k, a, c, fun env i h => dCallO_ok (rO_ok (by rw [h]; rfl) (rD_ok (t := .d (.int m)) rfl rfl)) (callO_ok (ts := [t, .d (.int m)]) rfl (by simp) (by simp [h]) e ?_)⟩
  rw [e_putB_r]; rfl
structure DrOs (os : List Ob) : Prop where
  t : ∀ o ∈ os, 0 ≤ o.1 ∧ o.1 < 14
  p : ∀ o ∈ os, o.2.natAbs < 2 ^ 12
theorem DrOs.ok {L : Int} {os : List Ob} (h : DrOs os) (l0 : 0 < L) (l1 : L ≤ 36) (few : os.length ≤ 50) : OsOk L os :=
  ⟨l0, by omega, fun o ho => ⟨(h.t o ho).1, by have := (h.t o ho).2; omega⟩, fun o ho => Nat.lt_of_lt_of_le (h.p o ho) (by decide), few⟩
abbrev eO (t : T) (L v : Int) (f : T) (s4 s5 s6 : Slot) : Ev := [.par t, .loc (.d (.int L)), .loc (.d (.int v)), .loc f, s4, s5, s6]
theorem obs_loop {ns : List Int} (hl : ns.length ≤ 63) {L v : Int} (l0 : 0 < L) (l1 : L ≤ 36) (v0 : -30 ≤ v) (v1 : v < 30) : ∀ (js : List D) (b : Nat) (t : T) (os : List Ob) (s4 s5 s6 : Slot), isPar s4 = false → isPar s5 = false → isPar s6 = false → PlOk ns b t → DrOs os → b + 3 * js.length ≤ 100000 → os.length + js.length ≤ 50 →
    ∃ t' os' s4' s5' s6', isPar s4' = false ∧ isPar s5' = false ∧ isPar s6' = false ∧ PlOk ns (b + 3 * js.length) t' ∧ DrOs os' ∧ os'.length = os.length + js.length ∧ forL (gNm 4) c__law_observations_0 js (eO t L v (.lst (os.map pD)) s4 s5 s6) = .ok .nx (eO t' L v (.lst (os'.map pD)) s4' s5' s6')
  | [], b, t, os, s4, s5, s6, p4, p5, p6, hp, ho, _, _ => ⟨t, os, s4, s5, s6, p4, p5, p6, by simpa using hp, ho, by simp, rfl⟩
  | j :: js, b, t, os, s4, s5, s6, p4, p5, p6, hp, ho, hb, hf => by
    rw [List.length_cons] at hb hf
    obtain ⟨x, t1, k1, x0, x1, e1⟩ := draw_c (m := 14) hp hl (by omega) (by decide) (by decide)
    obtain ⟨y, t2, k2, y0, y1, e2⟩ := draw_c (m := 5) k1 hl (by omega) (by decide) (by decide)
    obtain ⟨z, t3, k3, z0, z1, e3⟩ := draw_c (m := 9) k2 hl (by omega) (by decide) (by decide)
    have m1 : oMul (.int x) (.int v) = some (.d (.int (x * v))) := by rw [e_mul_i, if_pos (mul64 (by omega) (by omega))]
    have m2 : oMul (.int L) (.int (y - 2)) = some (.d (.int (L * (y - 2)))) := by rw [e_mul_i, if_pos (mul64 (by omega) (by omega))]
    have bx : (x * v).natAbs ≤ 13 * 30 := by
      rw [Int.natAbs_mul]
      exact Nat.mul_le_mul (by omega) (by omega)
    have by2 : (L * (y - 2)).natAbs ≤ 36 * 2 := by
      rw [Int.natAbs_mul]
      exact Nat.mul_le_mul (by omega) (by omega)
    have A5 : dSet 5 (dCallO m__law_draw F__law_draw [] (rO 0 (rD (dC (.int 14)) (rNil)))) (eO t L v (.lst (os.map pD)) (.loc (.d j)) s5 s6) = .ok .nx (eO t1 L v (.lst (os.map pD)) (.loc (.d j)) (.loc (.d (.int x))) s6) := set_ok (e1 _ 0 rfl) (by simp [p5])
    have D2 : dCallO m__law_draw F__law_draw [] (rO 0 (rD (dC (.int 5)) (rNil))) (eO t1 L v (.lst (os.map pD)) (.loc (.d j)) (.loc (.d (.int x))) s6) = .ok (.d (.int y)) (eO t2 L v (.lst (os.map pD)) (.loc (.d j)) (.loc (.d (.int x))) s6) := e2 _ 0 rfl
    have A6 : dSet 6 (dBn oAdd (dBp oMul 5 (pk 2)) (frzD (dBp oMul 1 (frzD (dBn oSub (dCallO m__law_draw F__law_draw [] (rO 0 (rD (dC (.int 5)) (rNil)))) (frzD (dC (.int 2)))))))) (eO t1 L v (.lst (os.map pD)) (.loc (.d j)) (.loc (.d (.int x))) s6) = .ok .nx (eO t2 L v (.lst (os.map pD)) (.loc (.d j)) (.loc (.d (.int x))) (.loc (.d (.int (x * v + L * (y - 2)))))) :=
      set_ok (bn_ok (bp_ok (t' := .d (.int x)) (t := .d (.int x)) rfl (pk_ok (i := 2) (t := .d (.int v)) rfl) rfl m1) (frz_ok (bp_ok (i := 1) (t' := .d (.int L)) (t := .d (.int L)) rfl (frz_ok (bn_ok D2 rfl e_sub_i)) rfl m2)) e_add_i) (by simp [p6])
    generalize hw : x * v + L * (y - 2) = w at *
    have D3 : dCallO m__law_draw F__law_draw [] (rO 0 (rD (dC (.int 9)) (rNil))) (eO t2 L v (.lst (os.map pD)) (.loc (.d j)) (.loc (.d (.int x))) (.loc (.d (.int w)))) = .ok (.d (.int z)) (eO t3 L v (.lst (os.map pD)) (.loc (.d j)) (.loc (.d (.int x))) (.loc (.d (.int w)))) := e3 _ 0 rfl
    have b1 : oInt (.bool (decide (z = 0))) = some (.d (.int (if z = 0 then 1 else 0))) := by
      by_cases e : z = 0
      · rw [if_pos e, decide_eq_true e]; rfl
      · rw [if_neg e, decide_eq_false e]; rfl
    have E6 : dBp oAdd 6 (frzD (dB1 oInt (frzD (dBn oEq (dCallO m__law_draw F__law_draw [] (rO 0 (rD (dC (.int 9)) (rNil)))) (frzD (dC (.int 0))))))) (eO t2 L v (.lst (os.map pD)) (.loc (.d j)) (.loc (.d (.int x))) (.loc (.d (.int w)))) = .ok (.d (.int (w + (if z = 0 then 1 else 0)))) (eO t3 L v (.lst (os.map pD)) (.loc (.d j)) (.loc (.d (.int x))) (.loc (.d (.int w)))) :=
      bp_ok (t' := .d (.int w)) (t := .d (.int w)) rfl (frz_ok (b1_ok (frz_ok (bn_ok D3 rfl (eq_o e_eqD_i))) b1)) rfl e_add_i
    have A7 : dMut appT 3 (dTup (dCons (dVar 5) (dCons (dBp oAdd 6 (frzD (dB1 oInt (frzD (dBn oEq (dCallO m__law_draw F__law_draw [] (rO 0 (rD (dC (.int 9)) (rNil)))) (frzD (dC (.int 0)))))))) (dNil)))) (eO t2 L v (.lst (os.map pD)) (.loc (.d j)) (.loc (.d (.int x))) (.loc (.d (.int w)))) = .ok (.d .none) (eO t3 L v (.lst ((os ++ [(x, w + (if z = 0 then 1 else 0))]).map pD)) (.loc (.d j)) (.loc (.d (.int x))) (.loc (.d (.int w)))) :=
      app_ok (t' := .lst (os.map pD)) (ds := os.map pD) rfl rfl (tup_ok (cons_ok (t := .d (.int x)) (vr rfl) (cons_ok E6 nil_ok)) (by show 2 ≤ sizeLine; decide)) rfl (by rw [List.length_map]; omega) (by rw [List.map_append]; rfl)
    have st : c__law_observations_0 (eO t L v (.lst (os.map pD)) (.loc (.d j)) s5 s6) = .ok .nx (eO t3 L v (.lst ((os ++ [(x, w + (if z = 0 then 1 else 0))]).map pD)) (.loc (.d j)) (.loc (.d (.int x))) (.loc (.d (.int w)))) := (seq_nx A5).trans ((seq_nx A6).trans (seq_nx (expr_ok A7)))
    have ho2 : DrOs (os ++ [(x, w + (if z = 0 then 1 else 0))]) := by
      constructor
      · intro o h
        rcases List.mem_append.mp h with h | h
        · exact ho.t o h
        · rw [List.mem_singleton.mp h]; exact ⟨x0, x1⟩
      · intro o h
        rcases List.mem_append.mp h with h | h
        · exact ho.p o h
        · rw [List.mem_singleton.mp h]
          show (w + (if z = 0 then 1 else 0)).natAbs < 2 ^ 12
          split <;> omega
    obtain ⟨t', os', a, b', c, pa, pb, pc, kp, hd, hle, ww⟩ := obs_loop hl l0 l1 v0 v1 js (b + 3) t3 _ (.loc (.d j)) (.loc (.d (.int x))) (.loc (.d (.int w))) rfl rfl rfl k3 ho2 (by omega) (by rw [List.length_append]; show os.length + 1 + _ ≤ 50; omega)
    refine ⟨t', os', a, b', c, pa, pb, pc, kp.up (by rw [List.length_cons]; omega), hd, by rw [hle, List.length_append]; show os.length + 1 + js.length = os.length + (js.length + 1); omega, ?_⟩
    exact (for_step (env1 := eO t L v (.lst (os.map pD)) (.loc (.d j)) s5 s6) (by simp [p4]) st).trans ww
theorem obs_ok {ns : List Int} (hl : ns.length ≤ 63) {L v : Int} (l0 : 0 < L) (l1 : L ≤ 36) (v0 : -30 ≤ v) (v1 : v < 30) {b : Nat} {t : T} (hp : PlOk ns b t) (hb : b ≤ 50000) : ∃ t' k os, PlOk ns (b + 20) t' ∧ OsOk L os ∧ F__law_observations [t, .d (.int L), .d (.int v)] = .ok (.d (OD k os)) [t'] := by
  obtain ⟨x, t1, k1, x0, x1, e1⟩ := draw_c (m := 5) hp hl (by omega) (by decide) (by decide)
  obtain ⟨n, rfl⟩ : ∃ n : Nat, x = (n : Int) := ⟨x.toNat, by omega⟩
  obtain ⟨t2, os, a, b', c, pa, pb, pc, k2, hd, hle, w⟩ := obs_loop hl l0 l1 v0 v1 ((List.range n).map fun i : Nat => D.int i) (b + 1) t1 [] .none .none .none rfl rfl rfl k1 ⟨fun o h => absurd h List.not_mem_nil, fun o h => absurd h List.not_mem_nil⟩ (by rw [List.length_map, List.length_range]; omega) (by rw [List.length_map, List.length_range]; show 0 + n ≤ 50; omega)
  rw [List.length_map, List.length_range] at k2 hle
  obtain ⟨y, t3, k3, y0, y1, e3⟩ := draw_c (m := 2) k2 hl (by omega) (by decide) (by decide)
  have A : dSet 3 (dLst (dNil)) [.par t, .loc (.d (.int L)), .loc (.d (.int v)), .none, .none, .none, .none] = .ok .nx (eO t L v (.lst []) .none .none .none) := set_ok (t := .lst []) rfl rfl
  have F := (for_ok (g := gNm 4) (s1 := c__law_observations_0) (rng1_ok (n := n) (cons_ok (t := .d (.int (n : Int))) (e1 (eO t L v (.lst []) .none .none .none) 0 rfl) nil_ok) (by omega))).trans w
  have l2 : (os.map pD).length ≤ sizeLine := by rw [List.length_map, e_size]; rw [hle]; show 0 + n ≤ _; omega
  have LL : dLst (dCons (dVar 3) (dCons (dB1 oTuple (pk 3)) (dNil))) (eO t2 L v (.lst (os.map pD)) a b' c) = .ok (.lst [.list (os.map pD), .tup (os.map pD)]) (eO t2 L v (.d (.list (os.map pD))) a b' c) :=
    lst_ok (cons_ok (t := .d (.list (os.map pD))) rfl (cons_ok (t := .d (.tup (os.map pD))) (b1_ok (pk_ok (t := .d (.list (os.map pD))) rfl) rfl) nil_ok)) (by show 2 ≤ sizeLine; decide)
  have D3 := e3 (eO t2 L v (.d (.list (os.map pD))) a b' c) 0 rfl
  have ob : OsOk L os := hd.ok l0 l1 (by rw [hle]; show 0 + n ≤ 50; omega)
  have fin : ∀ (k : Bool), ixD (.list [.list (os.map pD), .tup (os.map pD)]) (.int y) = some (OD k os) → F__law_observations [t, .d (.int L), .d (.int v)] = .ok (.d (OD k os)) [t3] := fun k hk => by
    have R := ix_ok (t := .lst [.list (os.map pD), .tup (os.map pD)]) LL (frz_ok D3) hk
    unfold F__law_observations c__law_observations
    refine fn_rt ((seq_nx A).trans ((seq_nx F).trans (seq_rt (ret_ok R)))) ?_
    show t3 :: backs [a, b', c] = [t3]
    rw [backs_none (by simp [pa, pb, pc])]
  by_cases hy : y = 0
  · exact ⟨t3, false, os, k3.up (by omega), ob, fin false (by rw [hy]; rfl)⟩
  · have hy : y = 1 := by omega
    exact ⟨t3, true, os, k3.up (by omega), ob, fin true (by rw [hy]; rfl)⟩
end Po

/-! k68: the law -/
namespace Po
open PySem Dn Cd Mo
theorem callK_ok {F : Fn} {n : Nat} {ds : Ev → Rs (List D)} {d : DE} {env env1 env2 : Ev} {xs : List D} {t u : T} (h : ds env = .ok xs env1) (h2 : d env1 = .ok t env2) (hl : xs.length + 1 = n) (hF : callP F n [] (xs ++ [t.frz]) env2 = .ok u env2) : dCallK F n ds d env = .ok u env2 := by
  unfold dCallK
  rw [h, e_bind_ok, h2, e_bindD_ok, if_pos hl, hF]
theorem lInv {α : Type} {g : D → Ev → Option Ev} {bd : DS} {h : α → D} (P : Nat → Ev → Prop) : ∀ {ys : List α} {n : Nat} {env : Ev}, (∀ y ∈ ys, ∀ j, n ≤ j → j < n + ys.length → ∀ env, P j env → ∃ e1 e2, g (h y) env = some e1 ∧ bd e1 = .ok .nx e2 ∧ P (j + 1) e2) → P n env → ∃ e', forL g bd (ys.map h) env = .ok .nx e' ∧ P (n + ys.length) e'
  | [], n, env, _, p => ⟨env, rfl, p⟩
  | y :: ys, n, env, s, p => by
    obtain ⟨e1, e2, h1, h2, p2⟩ := s y List.mem_cons_self n (Nat.le_refl _) (by rw [List.length_cons]; omega) env p
    obtain ⟨e', h3, p3⟩ := lInv P (ys := ys) (n := n + 1) (fun z hz j hj hj2 => s z (List.mem_cons_of_mem _ hz) j (by omega) (by rw [List.length_cons]; omega)) p2
    refine ⟨e', by rw [List.map_cons, for_step h1 h2]; exact h3, ?_⟩
    rw [List.length_cons]
    have e : n + (ys.length + 1) = n + 1 + ys.length := by omega
    rw [e]; exact p3
/-- between two turns -/
def fr68 (ns : List Int) (j : Nat) (e : Ev) : Prop := ∃ t v2 v3 v4 v5 v6 v7 v8 v9 v10 v11, PlOk ns (100 * j) t ∧ (isPar v2 = false ∧ isPar v3 = false ∧ isPar v4 = false ∧ isPar v5 = false ∧ isPar v6 = false ∧ isPar v7 = false ∧ v8 = .none ∧ isPar v9 = false ∧ isPar v10 = false ∧ isPar v11 = false) ∧ e = [.loc (.d (.scr ns)), .loc t, v2, v3, v4, v5, v6, v7, v8, v9, v10, v11]
abbrev eQ (ns : List Int) (t : T) (v2 : Slot) (L : Int) (O : D) (lo hi : Int) (v7 v9 v10 v11 : Slot) : Ev := [.loc (.d (.scr ns)), .loc t, v2, .loc (.d (.int L)), .loc (.d O), .loc (.d (.int lo)), .loc (.d (.int hi)), v7, .none, v9, v10, v11]
theorem turn_ok {ns : List Int} (hl : ns.length ≤ 63) {j : Nat} (hj : j < 6) (y : Nat) {e : Ev} (he : fr68 ns j e) : ∃ e1 e2, gNm 2 (.int (y : Int)) e = some e1 ∧ c_law_1 e1 = .ok .nx e2 ∧ fr68 ns (j + 1) e2 := by
  obtain ⟨t, v2, v3, v4, v5, v6, v7, v8, v9, v10, v11, hp, ⟨p2, p3, p4, p5, p6, p7, rfl, p9, p10, p11⟩, rfl⟩ := he
  obtain ⟨x, t1, k1, x0, x1, e1⟩ := draw_c (m := 36) hp hl (by omega) (by decide) (by decide)
  obtain ⟨s, t2, k2, s0, s1, e2⟩ := draw_c (m := 60) k1 hl (by omega) (by decide) (by decide)
  obtain ⟨t3, k, os, k3, ob, e3⟩ := obs_ok (L := 1 + x) (v := s - 30) hl (by omega) (by omega) (by omega) (by omega) k2 (by omega)
  obtain ⟨a, t4, k4, a0, a1, e4⟩ := draw_c (m := 60) k3 hl (by omega) (by decide) (by decide)
  obtain ⟨b, t5, k5, b0, b1, e5⟩ := draw_c (m := 80) k4 hl (by omega) (by decide) (by decide)
  obtain ⟨w, t6, k6, w0, w1, e6⟩ := draw_c (m := 50) k5 hl (by omega) (by decide) (by decide)
  have few : (known (1 + x) os (a - 40) (b - 40)).length ≤ 100 := by have := known_len (1 + x) os (a - 40) (b - 40); omega
  have G := gNm 2 (.int (y : Int)) [.loc (.d (.scr ns)), .loc t, v2, v3, v4, v5, v6, v7, .none, v9, v10, v11]
  have A3 : dSet 3 (dBn oAdd (dC (.int 1)) (frzD (dCallO m__law_draw F__law_draw [] (rO 1 (rD (dC (.int 36)) (rNil)))))) [.loc (.d (.scr ns)), .loc t, .loc (.d (.int (y : Int))), v3, v4, v5, v6, v7, .none, v9, v10, v11] = .ok .nx [.loc (.d (.scr ns)), .loc t1, .loc (.d (.int (y : Int))), .loc (.d (.int (1 + x))), v4, v5, v6, v7, .none, v9, v10, v11] :=
    set_ok (bn_ok (d := dC (.int 1)) (t := .d (.int 1)) rfl (frz_ok (e1 _ 1 rfl)) e_add_i) (by simp [p3])
  have D2 := e2 [.loc (.d (.scr ns)), .loc t1, .loc (.d (.int (y : Int))), .loc (.d (.int (1 + x))), v4, v5, v6, v7, .none, v9, v10, v11] 1 rfl
  have A4 : dSet 4 (dCallO m__law_observations F__law_observations [] (rO 1 (rD (dVar 3) (rD (dBn oSub (dCallO m__law_draw F__law_draw [] (rO 1 (rD (dC (.int 60)) (rNil)))) (frzD (dC (.int 30)))) (rNil))))) [.loc (.d (.scr ns)), .loc t1, .loc (.d (.int (y : Int))), .loc (.d (.int (1 + x))), v4, v5, v6, v7, .none, v9, v10, v11] = .ok .nx [.loc (.d (.scr ns)), .loc t3, .loc (.d (.int (y : Int))), .loc (.d (.int (1 + x))), .loc (.d (OD k os)), v5, v6, v7, .none, v9, v10, v11] :=
    set_ok (dCallO_ok (as := [.inr 1, .inl (.int (1 + x)), .inl (.int (s - 30))]) (rO_ok rfl (rD_ok (t := .d (.int (1 + x))) (vr rfl) (rD_ok (bn_ok D2 rfl e_sub_i) rfl))) (callO_ok (ts := [t2, .d (.int (1 + x)), .d (.int (s - 30))]) rfl (by simp) rfl e3 rfl)) (by simp [p4])
  have D4 := e4 [.loc (.d (.scr ns)), .loc t3, .loc (.d (.int (y : Int))), .loc (.d (.int (1 + x))), .loc (.d (OD k os)), v5, v6, v7, .none, v9, v10, v11] 1 rfl
  have D5 := e5 [.loc (.d (.scr ns)), .loc t4, .loc (.d (.int (y : Int))), .loc (.d (.int (1 + x))), .loc (.d (OD k os)), v5, v6, v7, .none, v9, v10, v11] 1 rfl
  have A5 : dPar2 5 6 (dBn oSub (dCallO m__law_draw F__law_draw [] (rO 1 (rD (dC (.int 60)) (rNil)))) (frzD (dC (.int 40)))) (dBn oSub (dCallO m__law_draw F__law_draw [] (rO 1 (rD (dC (.int 80)) (rNil)))) (frzD (dC (.int 40)))) [.loc (.d (.scr ns)), .loc t3, .loc (.d (.int (y : Int))), .loc (.d (.int (1 + x))), .loc (.d (OD k os)), v5, v6, v7, .none, v9, v10, v11] = .ok .nx (eQ ns t5 (.loc (.d (.int (y : Int)))) (1 + x) (OD k os) (a - 40) (b - 40) v7 v9 v10 v11) :=
    par2_ok (bn_ok D4 rfl e_sub_i) (bn_ok D5 rfl e_sub_i) (by simp [p5, p6])
  generalize hL : 1 + x = L at *
  generalize hlo : a - 40 = lo at *
  generalize hhi : b - 40 = hi at *
  have Fz : ∀ v ∈ Mo.upTo lo (hi + 1), turnD [8] (gNm 8) (dTru (frzD (dCallP F__law_fits 3 [] (dCons (dVar 3) (dCons (dVar 4) (dCons (dVar 8) (dNil))))))) (dVar 8) (D.int v) (eQ ns t5 (.loc (.d (.int (y : Int)))) L (OD k os) lo hi v7 v9 v10 v11) = .ok (if fitsB L os v = true then some (D.int v) else none) (eQ ns t5 (.loc (.d (.int (y : Int)))) L (OD k os) lo hi v7 v9 v10 v11) := fun v hv => by
    have vm := upTo_mem.mp hv
    have T : dTru (frzD (dCallP F__law_fits 3 [] (dCons (dVar 3) (dCons (dVar 4) (dCons (dVar 8) (dNil)))))) [.loc (.d (.scr ns)), .loc t5, .loc (.d (.int (y : Int))), .loc (.d (.int L)), .loc (.d (OD k os)), .loc (.d (.int lo)), .loc (.d (.int hi)), v7, .loc (.d (.int v)), v9, v10, v11] = .ok (fitsB L os v) [.loc (.d (.scr ns)), .loc t5, .loc (.d (.int (y : Int))), .loc (.d (.int L)), .loc (.d (OD k os)), .loc (.d (.int lo)), .loc (.d (.int hi)), v7, .loc (.d (.int v)), v9, v10, v11] :=
      tru_ok (frz_ok (call_ok (ar3 (i := 3) (j := 4) (k := 8) (x := .int L) (y := OD k os) (z := .int v) rfl rfl rfl) (callP_ok rfl (fits_ok ob (by omega))))) rfl
    exact turn_filter rfl T (emD_ok (vr (i := 8) (x := .int v) rfl)) rfl
  have RG : dRng rng2D (dCons (dVar 5) (dCons (dBp oAdd 6 (frzD (dC (.int 1)))) (dNil))) (eQ ns t5 (.loc (.d (.int (y : Int)))) L (OD k os) lo hi v7 v9 v10 v11) = .ok ((Mo.upTo lo (hi + 1)).map .int) (eQ ns t5 (.loc (.d (.int (y : Int)))) L (OD k os) lo hi v7 v9 v10 v11) :=
    rng2_ok (cons_ok (t := .d (.int lo)) (vr rfl) (cons_ok (t := .d (.int (hi + 1))) (bp_ok (t' := .d (.int hi)) (t := .d (.int hi)) rfl rfl rfl e_add_i) nil_ok)) (by omega) (by omega)
  have LC := comp_lc (ws := [8]) (env4 := eQ ns t5 (.loc (.d (.int (y : Int)))) L (OD k os) lo hi v7 v9 v10 v11) RG (by rw [List.length_map, upTo_len]; omega) rfl rfl (compL_filter Fz) rfl
  have A7 : dSet 7 _ (eQ ns t5 (.loc (.d (.int (y : Int)))) L (OD k os) lo hi v7 v9 v10 v11) = .ok .nx (eQ ns t5 (.loc (.d (.int (y : Int)))) L (OD k os) lo hi (.loc (.lst ((known L os lo hi).map .int))) v9 v10 v11) := set_ok LC (by simp [p7]; rfl)
  have CT : ∀ z9 z10 z11 z7, dCallP F_count_speeds 4 [] (dCons (dVar 3) (dCons (dVar 4) (dCons (dVar 5) (dCons (dVar 6) (dNil))))) (eQ ns t5 (.loc (.d (.int (y : Int)))) L (OD k os) lo hi z7 z9 z10 z11) = .ok (.d (.int (known L os lo hi).length)) (eQ ns t5 (.loc (.d (.int (y : Int)))) L (OD k os) lo hi z7 z9 z10 z11) := fun _ _ _ _ =>
    call_ok (cons_ok (t := .d (.int L)) (vr rfl) (ar3 (i := 4) (j := 5) (k := 6) (x := OD k os) (y := .int lo) (z := .int hi) rfl rfl rfl)) (callP_ok rfl (count_ok ob))
  have ln : oLen (.list ((known L os lo hi).map D.int)) = some (.d (.int ((known L os lo hi).length : Nat))) := by
    show some (T.d (.int (((known L os lo hi).map D.int).length : Nat))) = _
    rw [List.length_map]
  have T8 := ne_ev (CT v9 v10 v11 (.loc (.lst ((known L os lo hi).map .int)))) (frz_ok (b1_ok (pk_ok (i := 7) (t := .lst ((known L os lo hi).map .int)) rfl) ln)) (e_eqD_i.trans (congrArg some (decide_eq_true rfl)))
  have rf := eqD_refl (eqOk_ints (known L os lo hi)) (by decide)
  have LP : ∃ z9 z10, isPar z9 = false ∧ isPar z10 = false ∧ forL (gNm 9) c_law_0 [.int 0, .int 1] (eQ ns t5 (.loc (.d (.int (y : Int)))) L (OD k os) lo hi (.loc (.lst ((known L os lo hi).map .int))) v9 v10 v11) = .ok .nx (eQ ns t5 (.loc (.d (.int (y : Int)))) L (OD k os) lo hi (.loc (.lst ((known L os lo hi).map .int))) z9 z10 v11) := by
    have one : ∀ z9 z10 : Slot, isPar z10 = false → c_law_0 (eQ ns t5 (.loc (.d (.int (y : Int)))) L (OD k os) lo hi (.loc (.lst ((known L os lo hi).map .int))) z9 z10 v11) = .ok .nx (eQ ns t5 (.loc (.d (.int (y : Int)))) L (OD k os) lo hi (.loc (.lst ((known L os lo hi).map .int))) z9 (.loc (.lst ((known L os lo hi).map .int ++ [.none]))) v11) := fun z9 z10 q => by
      have S : dSet 10 (dCallP F_speeds_between 4 [] (dCons (dVar 3) (dCons (dVar 4) (dCons (dVar 5) (dCons (dVar 6) (dNil)))))) (eQ ns t5 (.loc (.d (.int (y : Int)))) L (OD k os) lo hi (.loc (.lst ((known L os lo hi).map .int))) z9 z10 v11) = .ok .nx (eQ ns t5 (.loc (.d (.int (y : Int)))) L (OD k os) lo hi (.loc (.lst ((known L os lo hi).map .int))) z9 (.loc (.lst ((known L os lo hi).map .int))) v11) :=
        set_ok (call_ok (cons_ok (t := .d (.int L)) (vr rfl) (ar3 (i := 4) (j := 5) (k := 6) (x := OD k os) (y := .int lo) (z := .int hi) rfl rfl rfl)) (callP_ok rfl (speeds_ok ob (by omega)))) (by simp [q])
      have T : aB (dBp oNe 10 (pk 7)) (eQ ns t5 (.loc (.d (.int (y : Int)))) L (OD k os) lo hi (.loc (.lst ((known L os lo hi).map .int))) z9 (.loc (.lst ((known L os lo hi).map .int))) v11) = .ok (!true) (eQ ns t5 (.loc (.d (.int (y : Int)))) L (OD k os) lo hi (.loc (.lst ((known L os lo hi).map .int))) z9 (.loc (.lst ((known L os lo hi).map .int))) v11) := aB_ok (bp_ok (t' := .lst ((known L os lo hi).map .int)) (t := .lst ((known L os lo hi).map .int)) rfl (pk_ok (t := .lst ((known L os lo hi).map .int)) rfl) rfl (ne_o rf))
      have AP : dMut appT 10 (dC .none) (eQ ns t5 (.loc (.d (.int (y : Int)))) L (OD k os) lo hi (.loc (.lst ((known L os lo hi).map .int))) z9 (.loc (.lst ((known L os lo hi).map .int))) v11) = .ok (.d .none) (eQ ns t5 (.loc (.d (.int (y : Int)))) L (OD k os) lo hi (.loc (.lst ((known L os lo hi).map .int))) z9 (.loc (.lst ((known L os lo hi).map .int ++ [.none]))) v11) := app_ok (t' := .lst ((known L os lo hi).map .int)) (ds := (known L os lo hi).map .int) (t := .d .none) rfl rfl rfl rfl (by rw [List.length_map]; omega) rfl
      unfold c_law_0
      exact (seq_nx S).trans ((seq_nx ((ite_f T).trans rfl)).trans (seq_nx (expr_ok AP)))
    refine ⟨.loc (.d (.int 1)), .loc (.lst ((known L os lo hi).map .int ++ [.none])), rfl, rfl, ?_⟩
    refine (for_step (env1 := eQ ns t5 (.loc (.d (.int (y : Int)))) L (OD k os) lo hi (.loc (.lst ((known L os lo hi).map .int))) (.loc (.d (.int 0))) v10 v11) (by simp [p9]) (one _ _ p10)).trans ?_
    exact (for_step (env1 := eQ ns t5 (.loc (.d (.int (y : Int)))) L (OD k os) lo hi (.loc (.lst ((known L os lo hi).map .int))) (.loc (.d (.int 1))) (.loc (.lst ((known L os lo hi).map .int ++ [.none]))) v11) (by simp) (one _ _ rfl)).trans rfl
  obtain ⟨z9, z10, q9, q10, lp⟩ := LP
  have F9 := (for_ok (g := gNm 9) (s1 := c_law_0) (rng1_ok (n := 2) (ds := dCons (dC (.int 2)) (dNil)) (env := eQ ns t5 (.loc (.d (.int (y : Int)))) L (OD k os) lo hi (.loc (.lst ((known L os lo hi).map .int))) v9 v10 v11) rfl (by decide))).trans lp
  have A11 : dSet 11 (dCallO m__law_draw F__law_draw [] (rO 1 (rD (dC (.int 50)) (rNil)))) (eQ ns t5 (.loc (.d (.int (y : Int)))) L (OD k os) lo hi (.loc (.lst ((known L os lo hi).map .int))) z9 z10 v11) = .ok .nx (eQ ns t6 (.loc (.d (.int (y : Int)))) L (OD k os) lo hi (.loc (.lst ((known L os lo hi).map .int))) z9 z10 (.loc (.d (.int w)))) := set_ok (e6 _ 1 rfl) (by simp [p11])
  have LOOK : ∀ t0 : Int, 0 ≤ t0 → t0 < 2 ^ 40 → ∃ z : D, F_next_look [.d (.int L), .d (OD k os), .d (.int lo), .d (.int hi), .d (.int t0)] = .ok (.d z) [] ∧ F__law_look [.d (.int L), .d (.list ((known L os lo hi).map .int)), .d (.int t0)] = .ok (.d z) [] ∧ eqD z z = some true := fun t0 h0 h1 => by
    obtain ⟨z, z1, z2, z3⟩ := look_ok (k := k) (t := t0) (lo := lo) (hi := hi) ob (by omega) (by omega) (by omega) (by omega) h0 h1
    refine ⟨z, z1, z2, ?_⟩
    rcases z3 with rfl | ⟨j, rfl⟩
    · exact eqD_refl EqOk.none (by decide)
    · exact eqD_refl (EqOk.int j) (by decide)
  obtain ⟨z, z1, z2, z3⟩ := LOOK w w0 (by omega)
  obtain ⟨u, u1, u2, u3⟩ := LOOK 0 (by decide) (by decide)
  have AR : ∀ z7, dCons (dVar 3) (dCons (dVar 4) (dCons (dVar 5) (dCons (dVar 6) (dNil)))) (eQ ns t6 (.loc (.d (.int (y : Int)))) L (OD k os) lo hi z7 z9 z10 (.loc (.d (.int w)))) = .ok [.int L, OD k os, .int lo, .int hi] (eQ ns t6 (.loc (.d (.int (y : Int)))) L (OD k os) lo hi z7 z9 z10 (.loc (.d (.int w)))) := fun _ => cons_ok (t := .d (.int L)) (vr rfl) (ar3 (i := 4) (j := 5) (k := 6) (x := OD k os) (y := .int lo) (z := .int hi) rfl rfl rfl)
  have K1 : dCallK F_next_look 5 (dCons (dVar 3) (dCons (dVar 4) (dCons (dVar 5) (dCons (dVar 6) (dNil))))) (dVar 11) (eQ ns t6 (.loc (.d (.int (y : Int)))) L (OD k os) lo hi (.loc (.lst ((known L os lo hi).map .int))) z9 z10 (.loc (.d (.int w)))) = .ok (.d z) (eQ ns t6 (.loc (.d (.int (y : Int)))) L (OD k os) lo hi (.loc (.lst ((known L os lo hi).map .int))) z9 z10 (.loc (.d (.int w)))) := callK_ok (AR _) (vr (x := .int w) rfl) rfl (callP_ok rfl z1)
  have V7 : dCons (dVar 3) (dCons (dVar 7) (dCons (dVar 11) (dNil))) (eQ ns t6 (.loc (.d (.int (y : Int)))) L (OD k os) lo hi (.loc (.lst ((known L os lo hi).map .int))) z9 z10 (.loc (.d (.int w)))) = .ok [.int L, .list ((known L os lo hi).map .int), .int w] (eQ ns t6 (.loc (.d (.int (y : Int)))) L (OD k os) lo hi (.loc (.d (.list ((known L os lo hi).map .int)))) z9 z10 (.loc (.d (.int w)))) := cons_ok (t := .d (.int L)) (vr rfl) (cons_ok (t := .d (.list ((known L os lo hi).map .int))) rfl (ar1 (i := 11) (x := .int w) rfl))
  have T12 := ne_ev K1 (frz_ok (call_ok (F := F__law_look) (n := 3) (dvs := []) V7 (callP_ok rfl z2))) z3
  have K2 : dCallP F_next_look 5 [L2.V.int 0] (dCons (dVar 3) (dCons (dVar 4) (dCons (dVar 5) (dCons (dVar 6) (dNil))))) (eQ ns t6 (.loc (.d (.int (y : Int)))) L (OD k os) lo hi (.loc (.d (.list ((known L os lo hi).map .int)))) z9 z10 (.loc (.d (.int w)))) = .ok (.d u) (eQ ns t6 (.loc (.d (.int (y : Int)))) L (OD k os) lo hi (.loc (.d (.list ((known L os lo hi).map .int)))) z9 z10 (.loc (.d (.int w)))) := call_ok (AR _) (callP_ok rfl u1)
  have V8 : dCons (dVar 3) (dCons (dVar 7) (dCons (dC (.int 0)) (dNil))) (eQ ns t6 (.loc (.d (.int (y : Int)))) L (OD k os) lo hi (.loc (.d (.list ((known L os lo hi).map .int)))) z9 z10 (.loc (.d (.int w)))) = .ok [.int L, .list ((known L os lo hi).map .int), .int 0] (eQ ns t6 (.loc (.d (.int (y : Int)))) L (OD k os) lo hi (.loc (.d (.list ((known L os lo hi).map .int)))) z9 z10 (.loc (.d (.int w)))) := cons_ok (t := .d (.int L)) (vr rfl) (cons_ok (t := .d (.list ((known L os lo hi).map .int))) (vr rfl) (cons_ok (d := dC (.int 0)) (t := .d (.int 0)) rfl nil_ok))
  have T13 := ne_ev K2 (frz_ok (call_ok (F := F__law_look) (n := 3) (dvs := []) V8 (callP_ok rfl u2))) u3
  refine ⟨[.loc (.d (.scr ns)), .loc t, .loc (.d (.int (y : Int))), v3, v4, v5, v6, v7, .none, v9, v10, v11], eQ ns t6 (.loc (.d (.int (y : Int)))) L (OD k os) lo hi (.loc (.d (.list ((known L os lo hi).map .int)))) z9 z10 (.loc (.d (.int w))), by simp [p2], ?_, ?_⟩
  · unfold c_law_1
    exact (seq_nx A3).trans ((seq_nx A4).trans ((seq_nx A5).trans ((seq_nx A7).trans ((seq_nx ((ite_f T8).trans rfl)).trans ((seq_nx F9).trans ((seq_nx A11).trans ((seq_nx ((ite_f T12).trans rfl)).trans (seq_nx ((ite_f T13).trans rfl)))))))))
  · exact ⟨t6, _, _, _, _, _, _, _, z9, z10, _, k6.up (by omega), ⟨rfl, rfl, rfl, rfl, rfl, rfl, rfl, q9, q10, rfl⟩, rfl⟩
end Po
namespace Ps
open PySem Dn Cd Po
theorem law_ok (ns : List Int) (h : ns.length ≤ 63) : ∃ bk, F_law [.d (.scr ns)] = .ok (.d (.bool true)) bk := by
  have A1 : dSet 1 (dCallP F__law_pool 1 [] (dCons (dVar 0) (dNil))) [.loc (.d (.scr ns)), .none, .none, .none, .none, .none, .none, .none, .none, .none, .none, .none] = .ok .nx [.loc (.d (.scr ns)), .loc (poolP ns 0 0 0), .none, .none, .none, .none, .none, .none, .none, .none, .none, .none] := set_ok (call_ok (ar1 (i := 0) (x := .scr ns) rfl) (callP_1 (pool_ok h))) rfl
  have f0 : fr68 ns 0 [.loc (.d (.scr ns)), .loc (poolP ns 0 0 0), .none, .none, .none, .none, .none, .none, .none, .none, .none, .none] := ⟨_, _, _, _, _, _, _, _, _, _, _, ⟨0, 0, 0, rfl, by decide, by decide⟩, ⟨rfl, rfl, rfl, rfl, rfl, rfl, rfl, rfl, rfl, rfl⟩, rfl⟩
  obtain ⟨e', lp, fe⟩ := lInv (g := gNm 2) (bd := c_law_1) (h := fun i : Nat => D.int i) (fr68 ns) (ys := List.range 6) (n := 0) (fun y hy j _ hj env he => turn_ok h (by simpa using hj) y he) f0
  have F2 := (for_ok (g := gNm 2) (s1 := c_law_1) (rng1_ok (n := 6) (ds := dCons (dC (.int 6)) (dNil)) (env := [.loc (.d (.scr ns)), .loc (poolP ns 0 0 0), .none, .none, .none, .none, .none, .none, .none, .none, .none, .none]) rfl (by decide))).trans lp
  unfold F_law c_law
  exact ⟨_, fn_rt ((seq_nx A1).trans ((seq_nx F2).trans (seq_rt (ret_ok (t := .d (.bool true)) rfl)))) rfl⟩
end Ps

namespace Hd
open PySem PySem.Spec PyProof.Rows L2 Dn
def loose : List Str := (["InvalidNumber", "InvalidLength", "InvalidTime", "LimitExceeded", "InvalidObservation", "is_integer", "common_divisor", "extended_divisor", "combined", "validate_length", "is_observation", "validate_observations", "combined_times", "find_class", "validate_bounds", "count_speeds", "speeds_between", "next_look", "_law_pool", "_law_draw", "_law_observations", "_law_fits", "_law_look", "MAX_SPEEDS", "MAX_OBSERVATIONS"] : List Str)
abbrev R : PySem.W.OpenRow := PySem.W.OpenLaw.row PySem.Challenge.rw_laprunners_k68_speeds_and_next_looks
abbrev hk : PySem.W.Hook := hookX 6 qs pr fa fn
def ob (s : PySem.W.SharedT) : AlX := obsXG 6 qs pr fa fn (HandSHeadRun.getT s)
theorem ob_eq (s : PySem.W.SharedT) : ob s = hk.obs s.abs := obsXG_eq (HandSHeadRun.getT_eq s)
theorem run (w : World) : HandSHeadRun.RunEq R (PySem.W.view R.prog [30]) hk ob 20000 loose w := by
  intro os
  kernel_rfl
end Hd
open PySem PySem.W PySem.Calls PyProof.Rows
theorem PySem.Challenge.cw_laprunners_k68_speeds_and_next_looks_holds : PySem.Challenge.rw_laprunners_k68_speeds_and_next_looks.Holds := by
  w_on; o_law
  refine HandSHeadRun.head_any (r := OpenLaw.row PySem.Challenge.rw_laprunners_k68_speeds_and_next_looks) (q := view (OpenLaw.row PySem.Challenge.rw_laprunners_k68_speeds_and_next_looks).prog [30]) (H := Hd.hk) (ob := Hd.ob) (M := 20000) (loose := Hd.loose) (d := HandSHeadRun.topDef (OpenLaw.row PySem.Challenge.rw_laprunners_k68_speeds_and_next_looks).prog 30) (kwd := []) Hd.ob_eq
    (by kernel_rfl) (fun s => by kernel_rfl) Hd.run (by kernel_rfl) (by kernel_rfl) (by kernel_rfl) (by rfl) (by first | assumption | decide +kernel) (by decide +kernel) ⟨rfl, rfl, rfl, rfl, rfl, by decide +kernel⟩ ?hw ?hc
  case hw => w_witness2
  case hc =>
    refine Dn.walk_g (l := PySem.Challenge.rw_laprunners_k68_speeds_and_next_looks) (n := 63) (k := 13) (x := "script") (CX := fun w => L2.CX (PySem.Challenge.rw_laprunners_k68_speeds_and_next_looks).prog w) rfl (by decide) (by kernel_rfl) ⟨rfl, by decide, by decide⟩ ?F (fun w H s e s2 z => Dn.cx_false H s e s2 z)
    intro w mg fa h Y G hmg0
    obtain ⟨K, KX, c⟩ := Y
    have hmg : mg ("law" : PySem.Str) = some (.ref fa) := by
      have e : (HandSHeadRun.topDef (OpenLaw.row PySem.Challenge.rw_laprunners_k68_speeds_and_next_looks).prog 30).name = ("law" : PySem.Str) := by kernel_rfl
      rw [← e]
      exact hmg0
    have T : Hd.TT K mg h := ⟨c, KX, G⟩
    obtain ⟨fd, F⟩ := T.tb.c.def_ 18 (d := Hd.d_law) rfl
    have e := hmg.symm.trans (Hd.g_law T)
    cases e
    have b := L2.FunD.bindsA (ps := ["script"]) F fun _ _ _ _ _ _ us hl => match us, hl with | [_], _ => rfl
    exact ⟨K, fd, Dn.spF K [false] Cd.F_law, KX, fun s v => b s [v] rfl, fun H a ns hl _ hS => let ⟨bk, q⟩ := Ps.law_ok ns hl; Dn.spLaw_of hS q, fun base _ _ => Dn.fn_ok F Wk.sc_law rfl (by decide) (Wk.b_law T)⟩
