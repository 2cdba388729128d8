import PyProof.Rows.All
import Wide.All
import OpenK.AllK
import Wide.FinOn
import HandS.ForMost
import HandS.IsInst
import HandS.Wide
import HandS.WordsExc
import HandS.Defaults
import HandS.HeadHook1
import HandS.Iter
import HandS.Flow
import HandS.Dict
import HandS.WordsDict
import HandS.TupMul
import HandS.Text
import HandS.Property
import HandS.ExcOwn
import HandS.Zip
import HandS.Style
import HandS.SortInts
import HandS.More
import HandS.Comp
import HandS.DictComp
import HandS.Star
import HandS.SetBool
import HandS.TupSets
import HandS.Strs
import HandS.SortRule
import HandS.HeadHook2
import HandS.HeadEnd
import HandS.Ends
import HandS.Head0
import HandS.Head1
import HandS.Head2
import KE.KStateDown
import HandS.Conv
import HandS.Sort
import HandS.OwnEq
import HandS.DictEq
import HandS.DeepEq
import PyProof.DictUpdate
import PySem.Challenge.RW_laprunners_k24_sessions
set_option Elab.async false
set_option linter.all false
set_option maxRecDepth 100000
set_option maxHeartbeats 0
namespace Dn
open PySem PySem.Spec PyProof.Rows L2

/-! ### data that is written no more; trees of our own -/
inductive D where
  | none | bool (b : Bool) | int (i : Int) | str (x : Str)
  | tup (ds : List D) | list (ds : List D)
  | dict (ks : List Key) (ds : List D)
  | dictT (ks : List (List Key)) (ds : List D)
  | inst (C : Str) (ns : List Str) (ds : List D)
  | scr (ns : List Int)
  | val (v : V)
inductive T where
  | d (x : D)
  | lst (ds : List D)
  | dict (ks : List Key) (ds : List D)
  | dictT (ks : List (List Key)) (ds : List D)
  | inst (C : Str) (ns : List Str) (ts : List T)
mutual
def T.frz : T → D
  | .d x => x
  | .lst ds => .list ds
  | .dict ks ds => .dict ks ds
  | .dictT ks ds => .dictT ks ds
  | .inst C ns ts => .inst C ns (frzL ts)
def frzL : List T → List D
  | [] => []
  | t :: ts => t.frz :: frzL ts
end
inductive Slot where
  | none | loc (t : T) | par (t : T)
abbrev Ev := List Slot
/-- an exception's class: own, built-in -/
inductive XC where
  | own (c : Str) | blt (n : String)
abbrev Fds := List (Str × D)
inductive Rs (α : Type) where
  | ok (a : α) (e : Ev)
  | exc (c : XC) (fs : Fds) (e : Ev)
  | stuck
def Rs.bind {α β : Type} (r : Rs α) (f : α → Ev → Rs β) : Rs β := match r with
  | .ok a e => f a e
  | .exc c fs e => .exc c fs e
  | .stuck => .stuck
def Rs.bindD {β : Type} (r : Rs T) (f : D → Ev → Rs β) : Rs β := match r with
  | .ok a e => f a.frz e
  | .exc c fs e => .exc c fs e
  | .stuck => .stuck
abbrev DE := Ev → Rs T
inductive Fw where
  | nx | rt (t : T) | bk | ct
abbrev DS := Ev → Rs Fw
inductive FR where
  | ok (t : T) (back : List T)
  | exc (c : XC) (fs : Fds) (back : List T)
  | stuck
abbrev Fn := List T → FR

/-! ### data in the heap -/
mutual
inductive Is (K : PySem.W.Frag) (H : Hp) : V → D → Prop
  | non : Is K H .non .none
  | bl (b : Bool) : Is K H (.bl b) (.bool b)
  | int (i : Int) : Is K H (.int i) (.int i)
  | str (x : Str) : Is K H (.str x) (.str x)
  | lst {a : Addr} {xs : List V} {ds : List D} (h : H a = some (.lst xs)) (r : IsL K H xs ds) : Is K H (.ref a) (.list ds)
  | tup {a : Addr} {xs : List V} {ds : List D} (h : H a = some (.tup xs)) (r : IsL K H xs ds) : Is K H (.ref a) (.tup ds)
  | dict {a : Addr} {od : Obj} {kv : List (Key × V)} {ks : List Key} {ds : List D} (h : H a = some (.frz od (.dK kv))) (hk : kv.map (·.1) = ks) (r : IsL K H (kv.map (·.2)) ds) : Is K H (.ref a) (.dict ks ds)
  | dictT {a : Addr} {od : Obj} {kv : List (List Key × V)} {ks : List (List Key)} {ds : List D} (h : H a = some (.frz od (.dT kv))) (hk : kv.map (·.1) = ks) (r : IsL K H (kv.map (·.2)) ds) : Is K H (.ref a) (.dictT ks ds)
  | inst {a dx : Addr} {C : Str} {fs : List (Str × V)} {ns : List Str} {ds : List D} (h : H a = some (.ins (He.ga K C) dx fs)) (hn : fs.map (·.1) = ns) (r : IsL K H (fs.map (·.2)) ds) : Is K H (.ref a) (.inst C ns ds)
  | scr {a : Addr} (ns : List Int) (h : SqL K H a (ns.map V.int)) : Is K H (.ref a) (.scr ns)
  | val (v : V) : Is K H v (.val v)
inductive IsL (K : PySem.W.Frag) (H : Hp) : List V → List D → Prop
  | nil : IsL K H [] []
  | cons {v : V} {vs : List V} {d : D} {ds : List D} (h : Is K H v d) (t : IsL K H vs ds) : IsL K H (v :: vs) (d :: ds)
end
mutual
theorem Is.up {K : PySem.W.Frag} {H H' : Hp} (e : Same H H') {v : V} {d : D} (h : Is K H v d) : Is K H' v d := by
  cases h with
  | non => exact .non
  | bl => exact .bl _
  | int => exact .int _
  | str => exact .str _
  | lst h r => exact .lst (e _ _ h) (IsL.up e r)
  | tup h r => exact .tup (e _ _ h) (IsL.up e r)
  | dict h hk r => exact .dict (e _ _ h) hk (IsL.up e r)
  | dictT h hk r => exact .dictT (e _ _ h) hk (IsL.up e r)
  | inst h hn r => exact .inst (e _ _ h) hn (IsL.up e r)
  | scr ns h => exact .scr ns (e.seq h)
  | val => exact .val _
theorem IsL.up {K : PySem.W.Frag} {H H' : Hp} (e : Same H H') {vs : List V} {ds : List D} (h : IsL K H vs ds) : IsL K H' vs ds := by
  cases h with
  | nil => exact .nil
  | cons h t => exact .cons (Is.up e h) (IsL.up e t)
end
section
variable {K : PySem.W.Frag} {H : Hp}
theorem IsL.length : ∀ {ds : List D} {vs : List V}, IsL K H vs ds → vs.length = ds.length
  | [], _, h => by cases h; rfl
  | d :: ds, _, h => by
    cases h with
    | cons h t => rw [List.length_cons, List.length_cons, t.length]
theorem IsL.get : ∀ {ds : List D} {vs : List V} {i : Nat} {v : V}, IsL K H vs ds → vs[i]? = some v → ∃ d, ds[i]? = some d ∧ Is K H v d
  | [], _, i, v, h, e => by cases h; simp at e
  | d :: ds, _, 0, v, h, e => by
    cases h with
    | cons h t => simp at e; subst e; exact ⟨d, rfl, h⟩
  | d :: ds, _, i + 1, v, h, e => by
    cases h with
    | cons h t =>
      obtain ⟨d', e', r⟩ := IsL.get (i := i) t (by simpa using e)
      exact ⟨d', by simpa using e', r⟩
theorem IsL.at {ds : List D} {vs : List V} {i : Nat} {d : D} (h : IsL K H vs ds) (e : ds[i]? = some d) : ∃ v, vs[i]? = some v ∧ Is K H v d := by
  have hi : i < ds.length := (List.getElem?_eq_some_iff.mp e).1
  have hv : i < vs.length := by rw [h.length]; exact hi
  obtain ⟨d', e', r⟩ := h.get (List.getElem?_eq_getElem hv)
  rw [e] at e'
  cases e'
  exact ⟨_, List.getElem?_eq_getElem hv, r⟩
theorem IsL.app : ∀ {ds es : List D} {vs us : List V}, IsL K H vs ds → IsL K H us es → IsL K H (vs ++ us) (ds ++ es)
  | [], _, _, _, h, r => by cases h; exact r
  | _ :: ds, _, _, _, h, r => by
    cases h with
    | cons h t => exact .cons h (t.app r)
theorem IsL.snoc {ds : List D} {vs : List V} {d : D} {v : V} (h : IsL K H vs ds) (r : Is K H v d) : IsL K H (vs ++ [v]) (ds ++ [d]) := h.app (.cons r .nil)
theorem IsL.set : ∀ {ds : List D} {vs : List V} {j : Nat} {d : D} {v : V}, IsL K H vs ds → Is K H v d → IsL K H (vs.set j v) (ds.set j d)
  | [], _, j, d, v, h, r => by cases h; exact .nil
  | _ :: ds, _, 0, d, v, h, r => by
    cases h with
    | cons h t => exact .cons r t
  | _ :: ds, _, j + 1, d, v, h, r => by
    cases h with
    | cons h t => exact .cons h (t.set r)
theorem IsL.take : ∀ {ds : List D} {vs : List V} (n : Nat), IsL K H vs ds → IsL K H (vs.take n) (ds.take n)
  | _, _, 0, _ => by simp; exact .nil
  | [], _, n + 1, h => by cases h; exact .nil
  | _ :: _, _, n + 1, h => by
    cases h with
    | cons h t => exact .cons h (t.take n)
theorem IsL.drop : ∀ {ds : List D} {vs : List V} (n : Nat), IsL K H vs ds → IsL K H (vs.drop n) (ds.drop n)
  | _, _, 0, h => by simpa using h
  | [], _, n + 1, h => by cases h; exact .nil
  | _ :: _, _, n + 1, h => by
    cases h with
    | cons h t => exact t.drop n
theorem IsL.of_ints : ∀ ns : List Int, IsL K H (ns.map V.int) (ns.map D.int)
  | [] => .nil
  | n :: ns => .cons (.int n) (IsL.of_ints ns)
theorem IsL.ints : ∀ {ns : List Int} {vs : List V}, IsL K H vs (ns.map D.int) → vs = ns.map V.int
  | [], _, h => by cases h; rfl
  | n :: ns, _, h => by
    cases h with
    | cons h t => cases h; rw [IsL.ints t]; rfl
theorem IsL.of_strs : ∀ ns : List Str, IsL K H (ns.map V.str) (ns.map D.str)
  | [] => .nil
  | n :: ns => .cons (.str n) (IsL.of_strs ns)
theorem IsL.strs : ∀ {ns : List Str} {vs : List V}, IsL K H vs (ns.map D.str) → vs = ns.map V.str
  | [], _, h => by cases h; rfl
  | n :: ns, _, h => by
    cases h with
    | cons h t => cases h; rw [IsL.strs t]; rfl
theorem Is.intE {v : V} {n : Int} (h : Is K H v (.int n)) : v = .int n := by cases h; rfl
theorem Is.boolE {v : V} {n : Bool} (h : Is K H v (.bool n)) : v = .bl n := by cases h; rfl
theorem Is.strE {v : V} {n : Str} (h : Is K H v (.str n)) : v = .str n := by cases h; rfl
theorem Is.noneE {v : V} (h : Is K H v .none) : v = .non := by cases h; rfl
theorem Is.valE {v u : V} (h : Is K H v (.val u)) : v = u := by cases h; rfl
theorem Is.tupE {v : V} {ds : List D} (h : Is K H v (.tup ds)) : ∃ a xs, v = .ref a ∧ H a = some (.tup xs) ∧ IsL K H xs ds := by
  cases h with
  | tup h r => exact ⟨_, _, rfl, h, r⟩
theorem Is.listE {v : V} {ds : List D} (h : Is K H v (.list ds)) : ∃ a xs, v = .ref a ∧ H a = some (.lst xs) ∧ IsL K H xs ds := by
  cases h with
  | lst h r => exact ⟨_, _, rfl, h, r⟩
theorem Is.dictE {v : V} {ks : List Key} {ds : List D} (h : Is K H v (.dict ks ds)) : ∃ a od kv, v = .ref a ∧ H a = some (.frz od (.dK kv)) ∧ kv.map (·.1) = ks ∧ IsL K H (kv.map (·.2)) ds := by
  cases h with
  | dict h hk r => exact ⟨_, _, _, rfl, h, hk, r⟩
theorem Is.dictTE {v : V} {ks : List (List Key)} {ds : List D} (h : Is K H v (.dictT ks ds)) : ∃ a od kv, v = .ref a ∧ H a = some (.frz od (.dT kv)) ∧ kv.map (·.1) = ks ∧ IsL K H (kv.map (·.2)) ds := by
  cases h with
  | dictT h hk r => exact ⟨_, _, _, rfl, h, hk, r⟩
theorem Is.instE {v : V} {C : Str} {ns : List Str} {ds : List D} (h : Is K H v (.inst C ns ds)) : ∃ a dx fs, v = .ref a ∧ H a = some (.ins (He.ga K C) dx fs) ∧ fs.map (·.1) = ns ∧ IsL K H (fs.map (·.2)) ds := by
  cases h with
  | inst h hn r => exact ⟨_, _, _, rfl, h, hn, r⟩
end

/-! ### trees of our own; A: the addresses that they own -/
mutual
inductive TIs (K : PySem.W.Frag) (G H : Hp) : V → T → List Addr → Prop
  | d {v : V} {x : D} (h : Is K G v x) : TIs K G H v (.d x) []
  | lst {a : Addr} {xs : List V} {ds : List D} (h : H a = some (.lst xs)) (r : IsL K G xs ds) : TIs K G H (.ref a) (.lst ds) [a]
  | dict {a : Addr} {kv : List (Key × V)} {ks : List Key} {ds : List D} (h : H a = some (.dK kv)) (hk : kv.map (·.1) = ks) (r : IsL K G (kv.map (·.2)) ds) : TIs K G H (.ref a) (.dict ks ds) [a]
  | dictT {a : Addr} {kv : List (List Key × V)} {ks : List (List Key)} {ds : List D} (h : H a = some (.dT kv)) (hk : kv.map (·.1) = ks) (r : IsL K G (kv.map (·.2)) ds) : TIs K G H (.ref a) (.dictT ks ds) [a]
  | inst {a dx : Addr} {C : Str} {fs : List (Str × V)} {ns : List Str} {ts : List T} {A : List Addr} (h : H a = some (.ins (He.ga K C) dx fs)) (hn : fs.map (·.1) = ns) (r : TIsL K G H (fs.map (·.2)) ts A) : TIs K G H (.ref a) (.inst C ns ts) (a :: A)
inductive TIsL (K : PySem.W.Frag) (G H : Hp) : List V → List T → List Addr → Prop
  | nil : TIsL K G H [] [] []
  | cons {v : V} {vs : List V} {t : T} {ts : List T} {A B : List Addr} (h : TIs K G H v t A) (r : TIsL K G H vs ts B) : TIsL K G H (v :: vs) (t :: ts) (A ++ B)
end
/-- the slots; ps: the values of the parameters that a caller keeps -/
inductive EvIs (K : PySem.W.Frag) (G H : Hp) : List V → L2.St → Ev → List Addr → Prop
  | nil : EvIs K G H [] [] [] []
  | none {ps : List V} {o : Option V} {σ : L2.St} {env : Ev} {A : List Addr} (r : EvIs K G H ps σ env A) : EvIs K G H ps (o :: σ) (.none :: env) A
  | loc {ps : List V} {v : V} {t : T} {σ : L2.St} {env : Ev} {A B : List Addr} (h : TIs K G H v t A) (r : EvIs K G H ps σ env B) : EvIs K G H ps (some v :: σ) (.loc t :: env) (A ++ B)
  | par {ps : List V} {v : V} {t : T} {σ : L2.St} {env : Ev} {A B : List Addr} (h : TIs K G H v t A) (r : EvIs K G H ps σ env B) : EvIs K G H (v :: ps) (some v :: σ) (.par t :: env) (A ++ B)
/-- the entry: what was known, the heap, what may be written -/
structure Fm where
  G0 : Hp
  H0 : Hp
  P : Addr → Prop
structure Rel (F : Fm) (G H : Hp) (A : List Addr) : Prop where
  g : Same F.G0 G
  gh : Same G H
  keep : ∀ a o, ¬ F.P a → F.H0 a = some o → H a = some o
  there : ∀ a, H a = none → F.H0 a = none
  sep : ∀ a o, G a = some o → F.G0 a = some o ∨ F.H0 a = none ∨ F.P a
  fp : ∀ a ∈ A, G a = none ∧ (∃ o, H a = some o) ∧ (F.P a ∨ F.H0 a = none)
  nd : A.Nodup

mutual
theorem TIs.up {K : PySem.W.Frag} {G H G' H' : Hp} (s : Same G G') {v : V} {t : T} {A : List Addr} (h : TIs K G H v t A) (k : ∀ a ∈ A, H' a = H a) : TIs K G' H' v t A := by
  cases h with
  | d h => exact .d (h.up s)
  | lst h r => exact .lst ((k _ List.mem_cons_self).trans h) (r.up s)
  | dict h hk r => exact .dict ((k _ List.mem_cons_self).trans h) hk (r.up s)
  | dictT h hk r => exact .dictT ((k _ List.mem_cons_self).trans h) hk (r.up s)
  | inst h hn r => exact .inst ((k _ List.mem_cons_self).trans h) hn (TIsL.up s r fun a ha => k a (List.mem_cons_of_mem _ ha))
theorem TIsL.up {K : PySem.W.Frag} {G H G' H' : Hp} (s : Same G G') {vs : List V} {ts : List T} {A : List Addr} (h : TIsL K G H vs ts A) (k : ∀ a ∈ A, H' a = H a) : TIsL K G' H' vs ts A := by
  cases h with
  | nil => exact .nil
  | cons h r => exact .cons (TIs.up s h fun a ha => k a (List.mem_append_left _ ha)) (TIsL.up s r fun a ha => k a (List.mem_append_right _ ha))
end
theorem EvIs.up {K : PySem.W.Frag} {G H G' H' : Hp} {ps : List V} {σ : L2.St} {env : Ev} {A : List Addr} (s : Same G G') (h : EvIs K G H ps σ env A) (k : ∀ a ∈ A, H' a = H a) : EvIs K G' H' ps σ env A := by
  induction h with
  | nil => exact .nil
  | none r ih => exact .none (ih k)
  | loc h r ih => exact .loc (h.up s fun a ha => k a (List.mem_append_left _ ha)) (ih fun a ha => k a (List.mem_append_right _ ha))
  | par h r ih => exact .par (h.up s fun a ha => k a (List.mem_append_left _ ha)) (ih fun a ha => k a (List.mem_append_right _ ha))
section
variable {F : Fm} {G H G' H' : Hp} {A B : List Addr} {p a : Addr} {o : HO} {K : PySem.W.Frag} {ps : List V} {σ : L2.St} {env : Ev}
theorem Same.gnone (f : Same G H) (hp : H p = none) : G p = none := by
  cases q : G p with
  | none => rfl
  | some u => rw [f p u q] at hp; cases hp
theorem Same.new (f : Same G H) (hp : H p = none) : Same G (upd G p o) := fun b u q => by rw [upd_ne (ne_of_none q (Same.gnone f hp))]; exact q
theorem Same.newG (hp : G p = none) : Same G (upd G p o) := fun b u q => by rw [upd_ne (ne_of_none q hp)]; exact q
theorem Rel.perm (f : Rel F G H A) (h : A.Perm B) : Rel F G H B := { f with fp := fun a ha => f.fp a (h.mem_iff.mpr ha), nd := h.nodup_iff.mp f.nd }
theorem Rel.ne (f : Rel F G H A) (hp : H p = none) : ∀ a ∈ A, a ≠ p := fun a ha e => by
  obtain ⟨_, ⟨o', h1⟩, _⟩ := f.fp a ha
  rw [e, hp] at h1; cases h1
/-- a new object goes to what is known -/
theorem Rel.new (f : Rel F G H A) (hp : H p = none) : Rel F (upd G p o) (upd H p o) A := by
  have s1 : Same G (upd G p o) := Same.new f.gh hp
  refine ⟨f.g.trans s1, fun b u q => ?_, fun a u h1 h2 => ?_, fun a h => ?_, fun a u h => ?_, fun a ha => ?_, f.nd⟩
  · by_cases e : b = p
    · subst e; rw [upd_same] at q ⊢; exact q
    · rw [upd_ne e] at q ⊢; exact f.gh b u q
  · have := f.keep a u h1 h2
    rw [upd_ne (ne_of_none this hp)]; exact this
  · by_cases e : a = p
    · subst e; rw [upd_same] at h; cases h
    · rw [upd_ne e] at h; exact f.there a h
  · by_cases e : a = p
    · subst e; exact .inr (.inl (f.there a hp))
    · rw [upd_ne e] at h; exact f.sep a u h
  · have e := f.ne hp a ha
    rw [upd_ne e, upd_ne e]; exact f.fp a ha
theorem upd_off (f : ∀ a ∈ A, a ≠ p) : ∀ a ∈ A, (upd H p o) a = H a := fun a ha => upd_ne (f a ha)
/-- a new object is our own -/
theorem Rel.mine (f : Rel F G H A) (hp : H p = none) : Rel F G (upd H p o) (p :: A) := by
  have hG := Same.gnone f.gh hp
  refine ⟨f.g, fun b u q => ?_, fun a u h1 h2 => ?_, fun a h => ?_, f.sep, fun a ha => ?_, List.nodup_cons.mpr ⟨fun h => f.ne hp p h rfl, f.nd⟩⟩
  · rw [upd_ne (ne_of_none q hG)]; exact f.gh b u q
  · have := f.keep a u h1 h2
    rw [upd_ne (ne_of_none this hp)]; exact this
  · by_cases e : a = p
    · subst e; rw [upd_same] at h; cases h
    · rw [upd_ne e] at h; exact f.there a h
  · rcases List.mem_cons.mp ha with e | ha
    · subst e; exact ⟨hG, ⟨o, upd_same⟩, .inr (f.there a hp)⟩
    · have e := f.ne hp a ha
      rw [upd_ne e]; exact f.fp a ha
/-- a new object that nobody will ask for -/
theorem Rel.junk (f : Rel F G H A) (hp : H p = none) : Rel F G (upd H p o) A := by
  have f2 := f.mine (o := o) hp
  exact { f2 with fp := fun a ha => f2.fp a (List.mem_cons_of_mem _ ha), nd := f.nd }
/-- our own is written -/
theorem Rel.put (f : Rel F G H A) (ha : a ∈ A) : Rel F G (upd H a o) A := by
  obtain ⟨hG, ⟨o1, h1⟩, hP⟩ := f.fp a ha
  refine ⟨f.g, fun b u q => ?_, fun b u h2 h3 => ?_, fun b h => ?_, f.sep, fun b hb => ?_, f.nd⟩
  · rw [upd_ne (ne_of_none q hG)]; exact f.gh b u q
  · have e : b ≠ a := fun e => by
      subst e
      rcases hP with z | z
      · exact h2 z
      · rw [z] at h3; cases h3
    rw [upd_ne e]; exact f.keep b u h2 h3
  · by_cases e : b = a
    · subst e; rw [upd_same] at h; cases h
    · rw [upd_ne e] at h; exact f.there b h
  · by_cases e : b = a
    · subst e; exact ⟨hG, ⟨o, upd_same⟩, hP⟩
    · rw [upd_ne e]; exact f.fp b hb
/-- our own becomes known -/
theorem Rel.freeze (f : Rel F G H (a :: A)) (h : H a = some o) : Rel F (upd G a o) H A ∧ Same G (upd G a o) := by
  obtain ⟨hG, _, hP⟩ := f.fp a List.mem_cons_self
  obtain ⟨hnd, nd'⟩ := List.nodup_cons.mp f.nd
  have s1 : Same G (upd G a o) := Same.newG hG
  refine ⟨⟨f.g.trans s1, fun b u q => ?_, f.keep, f.there, fun b u q => ?_, fun b hb => ?_, nd'⟩, s1⟩
  · by_cases e : b = a
    · subst e; rw [upd_same] at q; cases q; exact h
    · rw [upd_ne e] at q; exact f.gh b u q
  · by_cases e : b = a
    · subst e; exact .inr hP.symm
    · rw [upd_ne e] at q; exact f.sep b u q
  · have e : b ≠ a := fun e => hnd (e ▸ hb)
    rw [upd_ne e]; exact f.fp b (List.mem_cons_of_mem _ hb)
theorem Rel.sub (f : Rel F G H A) (h : ∀ b ∈ B, b ∈ A) (nd : B.Nodup) : Rel F G H B := { f with fp := fun a ha => f.fp a (h a ha), nd := nd }
theorem Rel.right (f : Rel F G H (B ++ A)) : Rel F G H A := f.sub (fun b hb => List.mem_append_right _ hb) (List.nodup_append.mp f.nd).2.1
theorem Rel.left (f : Rel F G H (B ++ A)) : Rel F G H B := f.sub (fun b hb => List.mem_append_left _ hb) (List.nodup_append.mp f.nd).1
theorem Rel.dj (f : Rel F G H (B ++ A)) : ∀ a ∈ A, a ∉ B := fun a ha hb => (List.nodup_append.mp f.nd).2.2 a hb a ha rfl
theorem Rel.gG (f : Rel F G H A) : Same G G := Same.refl G
/-- where a callee starts: B is handed over -/
theorem Rel.start (f : Rel F G H A) (h : ∀ b ∈ B, b ∈ A) (nd : B.Nodup) : Rel ⟨G, H, fun a => a ∈ B⟩ G H B :=
  ⟨Same.refl G, f.gh, fun _ _ _ h => h, fun _ h => h, fun _ _ h => .inl h, fun a ha => ⟨(f.fp a (h a ha)).1, (f.fp a (h a ha)).2.1, .inl ha⟩, nd⟩
/-- behind it -/
theorem Rel.back {B' : List Addr} (f : Rel F G H (B ++ A)) (g : Rel ⟨G, H, fun a => a ∈ B⟩ G' H' B') : Rel F G' H' (B' ++ A) ∧ Same G G' ∧ ∀ a ∈ A, H' a = H a := by
  have hA : ∀ a ∈ A, H' a = H a := fun a ha => by
    obtain ⟨_, ⟨o, e⟩, _⟩ := f.fp a (List.mem_append_right _ ha)
    rw [e, g.keep a o (f.dj a ha) e]
  have hB : ∀ a, a ∈ B → F.P a ∨ F.H0 a = none := fun a ha => (f.fp a (List.mem_append_left _ ha)).2.2
  refine ⟨⟨f.g.trans g.g, g.gh, fun a o h1 h2 => ?_, fun a h => f.there a (g.there a h), fun a o h => ?_, fun a ha => ?_, ?_⟩, g.g, hA⟩
  · have h3 := f.keep a o h1 h2
    refine g.keep a o (fun hm => ?_) h3
    rcases hB a hm with z | z
    · exact h1 z
    · rw [z] at h2; cases h2
  · rcases g.sep a o h with z | z | z
    · exact f.sep a o z
    · exact .inr (.inl (f.there a z))
    · exact .inr (hB a z).symm
  · rcases List.mem_append.mp ha with hb | ha
    · obtain ⟨h1, h2, h3⟩ := g.fp a hb
      refine ⟨h1, h2, ?_⟩
      rcases h3 with z | z
      · exact hB a z
      · exact .inr (f.there a z)
    · obtain ⟨h1, ⟨o, h2⟩, h3⟩ := f.fp a (List.mem_append_right _ ha)
      refine ⟨?_, ⟨o, (hA a ha).trans h2⟩, h3⟩
      cases q : G' a with
      | none => rfl
      | some u =>
        rcases g.sep a u q with z | z | z
        · have z : G a = some u := z
          rw [h1] at z; cases z
        · have z : H a = none := z
          rw [h2] at z; cases z
        · exact absurd z (f.dj a ha)
  · refine List.nodup_append.mpr ⟨g.nd, (List.nodup_append.mp f.nd).2.1, fun a ha b hb e => ?_⟩
    subst e
    obtain ⟨_, _, h3⟩ := g.fp a ha
    rcases h3 with z | z
    · exact f.dj a hb z
    · obtain ⟨_, ⟨o, h2⟩, _⟩ := f.fp a (List.mem_append_right _ hb)
      have z : H a = none := z
      rw [h2] at z; cases z
theorem EvIs.len (h : EvIs K G H ps σ env A) : σ.length = env.length := by
  induction h with
  | nil => rfl
  | none _ ih => rw [List.length_cons, List.length_cons, ih]
  | loc _ _ ih => rw [List.length_cons, List.length_cons, ih]
  | par _ _ ih => rw [List.length_cons, List.length_cons, ih]
end
end Dn

namespace Dn
open PySem PySem.Spec PyProof.Rows L2
/-! ### what a piece of text does, from a state on -/
structure RunE (X : Cx) (e : Expr) (σ : L2.St) (H : Hp) (Q : VK) : Prop where of ::
  r : ∀ (pins : List (Addr × Obj)) (s : Shared), Inv X pins σ H s → wpAny (model X.prog X.w) X.A (eval e X.env) (EP X pins σ Q) X.xe s
theorem pe_run {X : Cx} {e : Expr} : PE X e (RunE X e) := ⟨fun pins s _ _ _ I h => h.r pins s I⟩
structure RunT (X : Cx) (e : Expr) (σ : L2.St) (H : Hp) (Q : Bool → Hp → Prop) : Prop where of ::
  r : ∀ (pins : List (Addr × Obj)) (s : Shared), Inv X pins σ H s → wpAny (model X.prog X.w) X.A (isTrue e X.env (eval e X.env)) (TP X pins σ Q) X.xe s
theorem pt_run {X : Cx} {e : Expr} : PT X e (RunT X e) := ⟨fun pins s _ _ _ I h => h.r pins s I⟩
structure RunW (X : Cx) (e : Expr) (σ : L2.St) (H : Hp) (Q : Bool → Hp → Prop) : Prop where of ::
  r : ∀ (wh : Sem Value) (pins : List (Addr × Obj)) (s : Shared), Inv X pins σ H s → wpAny (model X.prog X.w) X.A (isTrue e X.env wh) (TP X pins σ Q) X.xe s
theorem pw_run {X : Cx} {e : Expr} : PW X e (RunW X e) := ⟨fun wh pins s _ _ _ I h => h.r wh pins s I⟩
structure RunA (X : Cx) (es : List Expr) (σ : L2.St) (H : Hp) (Q : List V → Hp → Prop) : Prop where of ::
  r : ∀ (pos : Pos) (pins : List (Addr × Obj)) (s : Shared), Inv X pins σ H s → wpAny (model X.prog X.w) X.A (spliced (backTo pos (starEach es X.env))) (AP X pins σ Q) X.xe s
theorem pa_run {X : Cx} {es : List Expr} : PA X es (RunA X es) := ⟨fun pos pins s _ _ _ I h => h.r pos pins s I⟩
structure RunS (X : Cx) (st : Stmt) (D : Ends) (σ : L2.St) (H : Hp) : Prop where of ::
  r : ∀ (pins : List (Addr × Obj)) (s : Shared), Inv X pins σ H s → wpAny (model X.prog X.w) X.A (exec st X.env) (SP X pins D) X.xe s
theorem ps_run {X : Cx} {st : Stmt} : PS X st (RunS X st) := ⟨fun pins s _ _ _ I h => h.r pins s I⟩
structure RunB (X : Cx) (st : List Stmt) (D : Ends) (σ : L2.St) (H : Hp) : Prop where of ::
  r : ∀ (pins : List (Addr × Obj)) (s : Shared), Inv X pins σ H s → wpAny (model X.prog X.w) X.A (execs st X.env) (SP X pins D) X.xe s
theorem pb_run {X : Cx} {st : List Stmt} : PSs X st (RunB X st) := ⟨fun pins s _ _ _ I h => h.r pins s I⟩
structure RunG (X : Cx) (tg : Expr) (v : V) (σ : L2.St) (H : Hp) (Q : L2.St → Hp → Prop) : Prop where of ::
  r : ∀ (pins : List (Addr × Obj)) (s : Shared) (u : Value), Inv X pins σ H s → RelV v u → wpAny (model X.prog X.w) X.A (assign tg X.env u) (fun _ s' => ∃ σ' H', Inv X pins σ' H' s' ∧ Q σ' H') X.xe s
theorem pg_run {X : Cx} {tg : Expr} : PG X tg (RunG X tg) := ⟨fun pins s _ _ _ u _ I r h => h.r pins s u I r⟩
structure RunGs (X : Cx) (ts : List Expr) (vs : List V) (σ : L2.St) (H : Hp) (Q : L2.St → Hp → Prop) : Prop where of ::
  r : ∀ (pins : List (Addr × Obj)) (s : Shared) (us : List Value), Inv X pins σ H s → Vals vs us → wpAny (model X.prog X.w) X.A (assignInOrder ((assignEach ts X.env).map (·.2)) us) (fun _ s' => ∃ σ' H', Inv X pins σ' H' s' ∧ Q σ' H') X.xe s
theorem pgs_run {X : Cx} {ts : List Expr} : PGs X ts (RunGs X ts) := ⟨fun pins s _ _ _ us _ I r h => h.r pins s us I r⟩
section
variable {X : Cx} {e : Expr} {es : List Expr} {st : Stmt} {sts : List Stmt} {σ : L2.St} {H : Hp} {D : Ends}
theorem PE.go {t : TE} {Q : VK} (h : PE X e t) (q : t σ H Q) : RunE X e σ H Q := ⟨fun pins s I => h.run pins s σ H Q I q⟩
theorem PT.go {t : TT} {Q : Bool → Hp → Prop} (h : PT X e t) (q : t σ H Q) : RunT X e σ H Q := ⟨fun pins s I => h.run pins s σ H Q I q⟩
theorem PW.go {t : TT} {Q : Bool → Hp → Prop} (h : PW X e t) (q : t σ H Q) : RunW X e σ H Q := ⟨fun wh pins s I => h.run wh pins s σ H Q I q⟩
theorem PA.go {t : TA} {Q : List V → Hp → Prop} (h : PA X es t) (q : t σ H Q) : RunA X es σ H Q := ⟨fun pos pins s I => h.run pos pins s σ H Q I q⟩
theorem PS.go {t : TS} (h : PS X st t) (q : t D σ H) : RunS X st D σ H := ⟨fun pins s I => h.run pins s σ H D I q⟩
theorem PSs.go {t : TS} (h : PSs X sts t) (q : t D σ H) : RunB X sts D σ H := ⟨fun pins s I => h.run pins s σ H D I q⟩
theorem PG.go {tg : Expr} {t : TG} {v : V} {Q : L2.St → Hp → Prop} (h : PG X tg t) (q : t v σ H Q) : RunG X tg v σ H Q := ⟨fun pins s u I r => h.run pins s σ H v u Q I r q⟩
theorem PGs.go {ts : List Expr} {t : TGs} {vs : List V} {Q : L2.St → Hp → Prop} (h : PGs X ts t) (q : t vs σ H Q) : RunGs X ts vs σ H Q := ⟨fun pins s us I r => h.run pins s σ H vs us Q I r q⟩
/-- at the end the abstract heap may be locked further -/
theorem RunE.fix {Q : VK} (h : RunE X e σ H fun v H1 => ∀ pins s, Inv X pins σ H1 s → ∃ H2, Inv X pins σ H2 s ∧ Q v H2) : RunE X e σ H Q := .of fun pins s I =>
  thn (h.r pins s I) fun u s' ⟨v, H1, I1, r, q⟩ => let ⟨H2, I2, q2⟩ := q pins s' I1; ⟨v, H2, I2, r, q2⟩
end

/-! ### a tree becomes data -/
mutual
theorem TIs.freeze {X : Cx} {pins : List (Addr × Obj)} {σ : L2.St} {s : Shared} {F : Fm} {G H : Hp} {v : V} {t : T} {B : List Addr} (h : TIs X.K G H v t B) {A : List Addr} (f : Rel F G H (B ++ A)) (I : Inv X pins σ H s) :
    ∃ G' H', Inv X pins σ H' s ∧ Same G G' ∧ (∀ a ∈ A, H' a = H a) ∧ Is X.K G' v t.frz ∧ Rel F G' H' A := by
  cases h with
  | d h => exact ⟨G, H, I, Same.refl G, fun _ _ => rfl, h, f⟩
  | @lst a xs ds h r =>
    obtain ⟨f2, s2⟩ := Rel.freeze (A := A) f h
    exact ⟨_, H, I, s2, fun _ _ => rfl, .lst upd_same (r.up s2), f2⟩
  | @dict a kv ks ds h hk r =>
    obtain ⟨od, I2⟩ := Inv.lock I h trivial
    have hn : ∀ b ∈ A, b ≠ a := fun b hb e => f.dj b hb (e ▸ List.mem_cons_self)
    obtain ⟨f2, s2⟩ := Rel.freeze (A := A) (f.put (a := a) (o := .frz od (.dK kv)) List.mem_cons_self) upd_same
    exact ⟨_, _, I2, s2, upd_off hn, .dict upd_same hk (r.up s2), f2⟩
  | @dictT a kv ks ds h hk r =>
    obtain ⟨od, I2⟩ := Inv.lock I h trivial
    have hn : ∀ b ∈ A, b ≠ a := fun b hb e => f.dj b hb (e ▸ List.mem_cons_self)
    obtain ⟨f2, s2⟩ := Rel.freeze (A := A) (f.put (a := a) (o := .frz od (.dT kv)) List.mem_cons_self) upd_same
    exact ⟨_, _, I2, s2, upd_off hn, .dictT upd_same hk (r.up s2), f2⟩
  | @inst a dx C fs ns ts B0 h hn r =>
    have f1 : Rel F G H (B0 ++ (a :: A)) := f.perm (by
      show (a :: (B0 ++ A)).Perm _
      exact List.perm_middle.symm)
    obtain ⟨G1, H1, I1, s1, k1, i1, f2⟩ := TIsL.freeze r f1 I
    obtain ⟨f3, s3⟩ := Rel.freeze f2 ((k1 a List.mem_cons_self).trans h)
    exact ⟨_, H1, I1, s1.trans s3, fun b hb => k1 b (List.mem_cons_of_mem _ hb), .inst upd_same hn (i1.up s3), f3⟩
theorem TIsL.freeze {X : Cx} {pins : List (Addr × Obj)} {σ : L2.St} {s : Shared} {F : Fm} {G H : Hp} {vs : List V} {ts : List T} {B : List Addr} (h : TIsL X.K G H vs ts B) {A : List Addr} (f : Rel F G H (B ++ A)) (I : Inv X pins σ H s) :
    ∃ G' H', Inv X pins σ H' s ∧ Same G G' ∧ (∀ a ∈ A, H' a = H a) ∧ IsL X.K G' vs (frzL ts) ∧ Rel F G' H' A := by
  cases h with
  | nil => exact ⟨G, H, I, Same.refl G, fun _ _ => rfl, .nil, f⟩
  | @cons v vs t ts B1 B2 h r =>
    rw [List.append_assoc] at f
    obtain ⟨G1, H1, I1, s1, k1, i1, f1⟩ := TIs.freeze h f I
    obtain ⟨G2, H2, I2, s2, k2, i2, f2⟩ := TIsL.freeze (r.up s1 fun a ha => k1 a (List.mem_append_left _ ha)) f1 I1
    exact ⟨G2, H2, I2, s1.trans s2, fun a ha => (k2 a ha).trans (k1 a (List.mem_append_right _ ha)), .cons (i1.up s2) i2, f2⟩
end

/-! ### judgements -/
def XC.val (K : PySem.W.Frag) : XC → Value
  | .own c => .ref (He.ga K c)
  | .blt n => .type n
/-- an exception of the class c with the fields fs -/
def ExcIs (K : PySem.W.Frag) (G : Hp) (c : XC) (fs : Fds) (cls : Value) (dx : Option Addr) : Prop :=
  cls = c.val K ∧ ((fs = [] ∧ dx = none) ∨ ∃ a kv, dx = some a ∧ G a = some (.xd kv) ∧ kv.map (·.1) = fs.map (·.1) ∧ IsL K G (kv.map (·.2)) (fs.map (·.2)))
theorem ExcIs.up {K : PySem.W.Frag} {G G' : Hp} {c : XC} {fs : Fds} {cls : Value} {dx : Option Addr} (s : Same G G') (h : ExcIs K G c fs cls dx) : ExcIs K G' c fs cls dx := by
  obtain ⟨h1, h2 | ⟨a, kv, h2, h3, h4, h5⟩⟩ := h
  · exact ⟨h1, .inl h2⟩
  · exact ⟨h1, .inr ⟨a, kv, h2, s _ _ h3, h4, h5.up s⟩⟩
def Rs.post {α : Type} (r : Rs α) (ok : α → Ev → Prop) (ex : XC → Fds → Ev → Prop) : Prop := match r with
  | .ok a e => ok a e
  | .exc c fs e => ex c fs e
  | .stuck => False
section
variable (X : Cx) (W : WX) (F : Fm) (ps : List V)
def exP (G : Hp) (c : XC) (fs : Fds) (env' : Ev) : Prop :=
  ∀ cls dx σ' G' H' A', Same G G' → EvIs X.K G' H' ps σ' env' A' → Rel F G' H' A' → ExcIs X.K G' c fs cls dx → W cls dx σ' H'
def okE (σ : L2.St) (G : Hp) (Q : VK) (t : T) (env' : Ev) : Prop :=
  ∀ v G' H' A' B, Same G G' → EvIs X.K G' H' ps σ env' A' → TIs X.K G' H' v t B → Rel F G' H' (B ++ A') → Q v H'
def okT (σ : L2.St) (G : Hp) (Q : Bool → Hp → Prop) (b : Bool) (env' : Ev) : Prop :=
  ∀ G' H' A', Same G G' → EvIs X.K G' H' ps σ env' A' → Rel F G' H' A' → Q b H'
def okA (σ : L2.St) (G : Hp) (Q : List V → Hp → Prop) (ds : List D) (env' : Ev) : Prop :=
  ∀ vs G' H' A', Same G G' → EvIs X.K G' H' ps σ env' A' → IsL X.K G' vs ds → Rel F G' H' A' → Q vs H'
def okS (D : Ends) (G : Hp) (w : Fw) (env' : Ev) : Prop := match w with
  | .nx => ∀ σ' G' H' A', Same G G' → EvIs X.K G' H' ps σ' env' A' → Rel F G' H' A' → D.nx σ' H'
  | .rt t => ∀ v σ' G' H' A' B, Same G G' → EvIs X.K G' H' ps σ' env' A' → TIs X.K G' H' v t B → Rel F G' H' (B ++ A') → D.rt v H'
  | .bk => ∀ σ' G' H' A', Same G G' → EvIs X.K G' H' ps σ' env' A' → Rel F G' H' A' → D.bk σ' H'
  | .ct => ∀ σ' G' H' A', Same G G' → EvIs X.K G' H' ps σ' env' A' → Rel F G' H' A' → D.ct σ' H'
end
section
variable {X : Cx} {W : WX} {F : Fm} {ps : List V} {σ : L2.St} {G G1 H : Hp} {A : List Addr} {env : Ev}
theorem exP.up (s : Same G G1) {c : XC} {fs : Fds} (h : exP X W F ps G c fs env) : exP X W F ps G1 c fs env := fun cls dx σ' G' H' A' s' => h cls dx σ' G' H' A' (s.trans s')
theorem okE.up (s : Same G G1) {t : T} {Q : VK} (h : okE X F ps σ G Q t env) : okE X F ps σ G1 Q t env := fun v G' H' A' B s' => h v G' H' A' B (s.trans s')
theorem okT.up (s : Same G G1) {t : Bool} {Q : Bool → Hp → Prop} (h : okT X F ps σ G Q t env) : okT X F ps σ G1 Q t env := fun G' H' A' s' => h G' H' A' (s.trans s')
theorem okA.up (s : Same G G1) {t : List D} {Q : List V → Hp → Prop} (h : okA X F ps σ G Q t env) : okA X F ps σ G1 Q t env := fun v G' H' A' s' => h v G' H' A' (s.trans s')
theorem okS.up (s : Same G G1) {w : Fw} {D : Ends} (h : okS X F ps D G w env) : okS X F ps D G1 w env := by
  cases w with
  | nx => exact fun σ' G' H' A' s' => h σ' G' H' A' (s.trans s')
  | rt t => exact fun v σ' G' H' A' B s' => h v σ' G' H' A' B (s.trans s')
  | bk => exact fun σ' G' H' A' s' => h σ' G' H' A' (s.trans s')
  | ct => exact fun σ' G' H' A' s' => h σ' G' H' A' (s.trans s')
theorem Rs.post.imp {α : Type} {r : Rs α} {ok ok' : α → Ev → Prop} {ex ex' : XC → Fds → Ev → Prop} (h : r.post ok ex) (k : ∀ a e, r = .ok a e → ok a e → ok' a e) (k2 : ∀ c fs e, r = .exc c fs e → ex c fs e → ex' c fs e) : r.post ok' ex' := by
  cases r with
  | ok a e => exact k a e rfl h
  | exc c fs e => exact k2 c fs e rfl h
  | stuck => exact h
theorem post_up {α : Type} {r : Rs α} {ok : α → Ev → Prop} (s : Same G G1) (h : r.post ok (exP X W F ps G)) : r.post ok (exP X W F ps G1) := h.imp (fun _ _ _ h => h) fun _ _ _ _ h => h.up s
end
/-- e does what d says -/
def SE (X : Cx) (W : WX) (e : Expr) (d : DE) : Prop :=
  ∀ F ps σ G H A Q env, EvIs X.K G H ps σ env A → Rel F G H A → (d env).post (okE X F ps σ G Q) (exP X W F ps G) → RunE X e σ H Q
def ST (X : Cx) (W : WX) (e : Expr) (d : Ev → Rs Bool) : Prop :=
  ∀ F ps σ G H A Q env, EvIs X.K G H ps σ env A → Rel F G H A → (d env).post (okT X F ps σ G Q) (exP X W F ps G) → RunT X e σ H Q
def SW (X : Cx) (W : WX) (e : Expr) (d : Ev → Rs Bool) : Prop :=
  ∀ F ps σ G H A Q env, EvIs X.K G H ps σ env A → Rel F G H A → (d env).post (okT X F ps σ G Q) (exP X W F ps G) → RunW X e σ H Q
def SA (X : Cx) (W : WX) (es : List Expr) (d : Ev → Rs (List D)) : Prop :=
  ∀ F ps σ G H A Q env, EvIs X.K G H ps σ env A → Rel F G H A → (d env).post (okA X F ps σ G Q) (exP X W F ps G) → RunA X es σ H Q
def SS (X : Cx) (W : WX) (st : Stmt) (d : DS) : Prop :=
  ∀ F ps σ G H A D env, EvIs X.K G H ps σ env A → Rel F G H A → (d env).post (okS X F ps D G) (exP X W F ps G) → RunS X st D σ H
def SB (X : Cx) (W : WX) (sts : List Stmt) (d : DS) : Prop :=
  ∀ F ps σ G H A D env, EvIs X.K G H ps σ env A → Rel F G H A → (d env).post (okS X F ps D G) (exP X W F ps G) → RunB X sts D σ H

section
variable {X : Cx} {W : WX} {F : Fm} {ps : List V} {σ : L2.St} {G H : Hp} {A : List Addr} {env : Ev} {β : Type} {ok : β → Ev → Prop} {e : Expr} {es : List Expr} {d : DE} {K1 : VK}
theorem SE.seq (h : SE X W e d) {f : T → Ev → Rs β} (I : EvIs X.K G H ps σ env A) (R : Rel F G H A) (P : ((d env).bind f).post ok (exP X W F ps G))
    (k : ∀ t env' v G' H' A' B, Same G G' → EvIs X.K G' H' ps σ env' A' → TIs X.K G' H' v t B → Rel F G' H' (B ++ A') → (f t env').post ok (exP X W F ps G') → K1 v H') : RunE X e σ H K1 := by
  refine h F ps σ G H A K1 env I R ?_
  cases q : d env with
  | ok t env' =>
    rw [q] at P
    exact fun v G' H' A' B s I' i R' => k t env' v G' H' A' B s I' i R' (post_up s P)
  | exc c fs env' => rw [q] at P; exact P
  | stuck => rw [q] at P; exact P
theorem SE.seqD (h : SE X W e d) {f : D → Ev → Rs β} (I : EvIs X.K G H ps σ env A) (R : Rel F G H A) (P : ((d env).bindD f).post ok (exP X W F ps G))
    (k : ∀ x env' v G' H' A', Same G G' → EvIs X.K G' H' ps σ env' A' → Is X.K G' v x → Rel F G' H' A' → (f x env').post ok (exP X W F ps G') → K1 v H') : RunE X e σ H K1 := by
  refine RunE.fix (h F ps σ G H A _ env I R ?_)
  cases q : d env with
  | ok t env' =>
    rw [q] at P
    intro v G' H' A' B s I' i R' pins sh J
    obtain ⟨G2, H2, J2, s2, k2, i2, R2⟩ := i.freeze R' J
    exact ⟨H2, J2, k t.frz env' v G2 H2 A' (s.trans s2) (I'.up s2 k2) i2 R2 (post_up (s.trans s2) P)⟩
  | exc c fs env' => rw [q] at P; exact P
  | stuck => rw [q] at P; exact P
theorem ST.seq {d : Ev → Rs Bool} {K1 : Bool → Hp → Prop} (h : ST X W e d) {f : Bool → Ev → Rs β} (I : EvIs X.K G H ps σ env A) (R : Rel F G H A) (P : ((d env).bind f).post ok (exP X W F ps G))
    (k : ∀ b env' G' H' A', Same G G' → EvIs X.K G' H' ps σ env' A' → Rel F G' H' A' → (f b env').post ok (exP X W F ps G') → K1 b H') : RunT X e σ H K1 := by
  refine h F ps σ G H A K1 env I R ?_
  cases q : d env with
  | ok t env' =>
    rw [q] at P
    exact fun G' H' A' s I' R' => k t env' G' H' A' s I' R' (post_up s P)
  | exc c fs env' => rw [q] at P; exact P
  | stuck => rw [q] at P; exact P
theorem SW.seq {d : Ev → Rs Bool} {K1 : Bool → Hp → Prop} (h : SW X W e d) {f : Bool → Ev → Rs β} (I : EvIs X.K G H ps σ env A) (R : Rel F G H A) (P : ((d env).bind f).post ok (exP X W F ps G))
    (k : ∀ b env' G' H' A', Same G G' → EvIs X.K G' H' ps σ env' A' → Rel F G' H' A' → (f b env').post ok (exP X W F ps G') → K1 b H') : RunW X e σ H K1 := by
  refine h F ps σ G H A K1 env I R ?_
  cases q : d env with
  | ok t env' =>
    rw [q] at P
    exact fun G' H' A' s I' R' => k t env' G' H' A' s I' R' (post_up s P)
  | exc c fs env' => rw [q] at P; exact P
  | stuck => rw [q] at P; exact P
theorem SA.seq {d : Ev → Rs (List D)} {K1 : List V → Hp → Prop} (h : SA X W es d) {f : List D → Ev → Rs β} (I : EvIs X.K G H ps σ env A) (R : Rel F G H A) (P : ((d env).bind f).post ok (exP X W F ps G))
    (k : ∀ ds env' vs G' H' A', Same G G' → EvIs X.K G' H' ps σ env' A' → IsL X.K G' vs ds → Rel F G' H' A' → (f ds env').post ok (exP X W F ps G') → K1 vs H') : RunA X es σ H K1 := by
  refine h F ps σ G H A K1 env I R ?_
  cases q : d env with
  | ok t env' =>
    rw [q] at P
    exact fun vs G' H' A' s I' i R' => k t env' vs G' H' A' s I' i R' (post_up s P)
  | exc c fs env' => rw [q] at P; exact P
  | stuck => rw [q] at P; exact P
end
end Dn

namespace Dn
open PySem PySem.Spec PyProof.Rows L2
/-! ### slots -/
def getS : Ev → Nat → Slot
  | [], _ => .none
  | s :: _, 0 => s
  | _ :: r, i + 1 => getS r i
def setS : Ev → Nat → Slot → Ev
  | [], _, _ => []
  | _ :: r, 0, s => s :: r
  | x :: r, i + 1, s => x :: setS r i s
theorem perm3 {α : Type} (a b c : List α) : (a ++ (b ++ c)).Perm (b ++ (a ++ c)) := by
  rw [← List.append_assoc, ← List.append_assoc]
  exact List.Perm.append_right c List.perm_append_comm
section
variable {K : PySem.W.Frag} {G H : Hp} {ps : List V} {σ : L2.St} {env : Ev} {A : List Addr}
def Pulled (K : PySem.W.Frag) (G H : Hp) (ps : List V) (σ : L2.St) (env : Ev) (A : List Addr) (i : Nat) : Prop := match getS env i with
  | .none => True
  | .loc t => ∃ v B C, σ[i]? = some (some v) ∧ TIs K G H v t B ∧ A.Perm (B ++ C) ∧ ∀ G' H' v' t' B', Same G G' → (∀ a ∈ C, H' a = H a) → TIs K G' H' v' t' B' → ∃ A', EvIs K G' H' ps (σ.set i (some v')) (setS env i (.loc t')) A' ∧ A'.Perm (B' ++ C)
  | .par t => ∃ v B C, σ[i]? = some (some v) ∧ TIs K G H v t B ∧ A.Perm (B ++ C) ∧ ∀ G' H' t' B', Same G G' → (∀ a ∈ C, H' a = H a) → TIs K G' H' v t' B' → ∃ A', EvIs K G' H' ps σ (setS env i (.par t')) A' ∧ A'.Perm (B' ++ C)
theorem EvIs.pull (h : EvIs K G H ps σ env A) : ∀ i, Pulled K G H ps σ env A i := by
  induction h with
  | nil => intro i; cases i <;> trivial
  | @none ps o σ env A r ih =>
    intro i
    cases i with
    | zero => trivial
    | succ i =>
      have := ih i
      unfold Pulled at this ⊢
      rw [show getS (.none :: env) (i + 1) = getS env i from rfl]
      cases q : getS env i with
      | none => trivial
      | loc t =>
        rw [q] at this
        obtain ⟨v, B, C, h1, h2, h3, h4⟩ := this
        refine ⟨v, B, C, by simpa using h1, h2, h3, fun G' H' v' t' B' s k t => ?_⟩
        obtain ⟨A', e, p⟩ := h4 G' H' v' t' B' s k t
        exact ⟨A', .none e, p⟩
      | par t =>
        rw [q] at this
        obtain ⟨v, B, C, h1, h2, h3, h4⟩ := this
        refine ⟨v, B, C, by simpa using h1, h2, h3, fun G' H' t' B' s k t => ?_⟩
        obtain ⟨A', e, p⟩ := h4 G' H' t' B' s k t
        exact ⟨A', .none e, p⟩
  | @loc ps w u σ env A1 B1 hw r ih =>
    intro i
    cases i with
    | zero => exact ⟨w, A1, B1, rfl, hw, List.Perm.refl _, fun G' H' v' t' B' s k t => ⟨B' ++ B1, .loc t (r.up s k), List.Perm.refl _⟩⟩
    | succ i =>
      have := ih i
      unfold Pulled at this ⊢
      rw [show getS (.loc u :: env) (i + 1) = getS env i from rfl]
      cases q : getS env i with
      | none => trivial
      | loc t =>
        rw [q] at this
        obtain ⟨v, B, C, h1, h2, h3, h4⟩ := this
        refine ⟨v, B, A1 ++ C, by simpa using h1, h2, (List.Perm.append_left A1 h3).trans (perm3 _ _ _), fun G' H' v' t' B' s k t => ?_⟩
        obtain ⟨A', e, p⟩ := h4 G' H' v' t' B' s (fun a ha => k a (List.mem_append_right _ ha)) t
        exact ⟨A1 ++ A', .loc (hw.up s fun a ha => k a (List.mem_append_left _ ha)) e, (List.Perm.append_left A1 p).trans (perm3 _ _ _)⟩
      | par t =>
        rw [q] at this
        obtain ⟨v, B, C, h1, h2, h3, h4⟩ := this
        refine ⟨v, B, A1 ++ C, by simpa using h1, h2, (List.Perm.append_left A1 h3).trans (perm3 _ _ _), fun G' H' t' B' s k t => ?_⟩
        obtain ⟨A', e, p⟩ := h4 G' H' t' B' s (fun a ha => k a (List.mem_append_right _ ha)) t
        exact ⟨A1 ++ A', .loc (hw.up s fun a ha => k a (List.mem_append_left _ ha)) e, (List.Perm.append_left A1 p).trans (perm3 _ _ _)⟩
  | @par ps w u σ env A1 B1 hw r ih =>
    intro i
    cases i with
    | zero => exact ⟨w, A1, B1, rfl, hw, List.Perm.refl _, fun G' H' t' B' s k t => ⟨B' ++ B1, .par t (r.up s k), List.Perm.refl _⟩⟩
    | succ i =>
      have := ih i
      unfold Pulled at this ⊢
      rw [show getS (.par u :: env) (i + 1) = getS env i from rfl]
      cases q : getS env i with
      | none => trivial
      | loc t =>
        rw [q] at this
        obtain ⟨v, B, C, h1, h2, h3, h4⟩ := this
        refine ⟨v, B, A1 ++ C, by simpa using h1, h2, (List.Perm.append_left A1 h3).trans (perm3 _ _ _), fun G' H' v' t' B' s k t => ?_⟩
        obtain ⟨A', e, p⟩ := h4 G' H' v' t' B' s (fun a ha => k a (List.mem_append_right _ ha)) t
        exact ⟨A1 ++ A', .par (hw.up s fun a ha => k a (List.mem_append_left _ ha)) e, (List.Perm.append_left A1 p).trans (perm3 _ _ _)⟩
      | par t =>
        rw [q] at this
        obtain ⟨v, B, C, h1, h2, h3, h4⟩ := this
        refine ⟨v, B, A1 ++ C, by simpa using h1, h2, (List.Perm.append_left A1 h3).trans (perm3 _ _ _), fun G' H' t' B' s k t => ?_⟩
        obtain ⟨A', e, p⟩ := h4 G' H' t' B' s (fun a ha => k a (List.mem_append_right _ ha)) t
        exact ⟨A1 ++ A', .par (hw.up s fun a ha => k a (List.mem_append_left _ ha)) e, (List.Perm.append_left A1 p).trans (perm3 _ _ _)⟩
theorem set_fix {i : Nat} {v : V} (ev : σ[i]? = some (some v)) : σ.set i (some v) = σ := by
  apply List.ext_getElem?
  intro j
  by_cases e : i = j
  · subst e
    have hl : i < σ.length := (List.getElem?_eq_some_iff.mp ev).1
    rw [List.getElem?_set_self hl, ev]
  · rw [List.getElem?_set_ne e]
/-- the tree at a slot; how another is put there in place -/
def treeS : Slot → Option T
  | .none => none
  | .loc t => some t
  | .par t => some t
/-- the slot with another tree -/
def reS : Slot → T → Slot
  | .none, _ => .none
  | .loc _, t => .loc t
  | .par _, t => .par t
theorem EvIs.tree (h : EvIs K G H ps σ env A) {i : Nat} {t : T} (e : treeS (getS env i) = some t) : ∃ v B C, σ[i]? = some (some v) ∧ TIs K G H v t B ∧ A.Perm (B ++ C) ∧
    ∀ G' H' t' B', Same G G' → (∀ a ∈ C, H' a = H a) → TIs K G' H' v t' B' → ∃ A', EvIs K G' H' ps σ (setS env i (reS (getS env i) t')) A' ∧ A'.Perm (B' ++ C) := by
  have := h.pull i
  unfold Pulled at this
  cases q : getS env i with
  | none => rw [q] at e; cases e
  | loc u =>
    rw [q] at e this
    cases e
    obtain ⟨v, B, C, h1, h2, h3, h4⟩ := this
    refine ⟨v, B, C, h1, h2, h3, fun G' H' t' B' s k t => ?_⟩
    obtain ⟨A', e, p⟩ := h4 G' H' v t' B' s k t
    rw [set_fix h1] at e
    exact ⟨A', e, p⟩
  | par u =>
    rw [q] at e this
    cases e
    exact this
theorem setS_self : ∀ (env : Ev) (i : Nat), setS env i (getS env i) = env
  | [], _ => rfl
  | _ :: _, 0 => rfl
  | x :: r, i + 1 => congrArg (x :: ·) (setS_self r i)
theorem reS_self {s : Slot} {t : T} (e : treeS s = some t) : reS s t = s := by
  cases s with
  | none => cases e
  | loc u => cases e; rfl
  | par u => cases e; rfl
def isPar : Slot → Bool
  | .par _ => true
  | _ => false
/-- a slot that is no kept parameter gets a tree -/
theorem EvIs.put (h : EvIs K G H ps σ env A) : ∀ {i : Nat} {v : V} {t : T} {B : List Addr}, isPar (getS env i) = false → TIs K G H v t B → ∃ A' C, EvIs K G H ps (σ.set i (some v)) (setS env i (.loc t)) A' ∧ (∀ a ∈ A', a ∈ B ++ A) ∧ ((B ++ A).Nodup → A'.Nodup) ∧ A'.Perm C := by
  induction h with
  | nil => intro i v t B hp ht; exact ⟨[], [], .nil, fun a ha => (by cases ha), fun _ => .nil, List.Perm.refl _⟩
  | @none ps o σ env A r ih =>
    intro i v t B hp ht
    cases i with
    | zero => exact ⟨B ++ A, _, .loc ht r, fun a ha => ha, fun h => h, List.Perm.refl _⟩
    | succ i =>
      obtain ⟨A', C, e, m, n, p⟩ := ih (i := i) hp ht
      exact ⟨A', C, .none e, m, n, p⟩
  | @loc ps w u σ env A1 B1 hw r ih =>
    intro i v t B hp ht
    cases i with
    | zero =>
      refine ⟨B ++ B1, _, .loc ht r, fun a ha => ?_, fun h => ?_, List.Perm.refl _⟩
      · rcases List.mem_append.mp ha with z | z
        · exact List.mem_append_left _ z
        · exact List.mem_append_right _ (List.mem_append_right _ z)
      · have h1 := (perm3 B A1 B1).nodup_iff.mp h
        exact (List.nodup_append.mp h1).2.1
    | succ i =>
      obtain ⟨A', C, e, m, n, p⟩ := ih (i := i) hp ht
      refine ⟨A1 ++ A', _, .loc hw e, fun a ha => ?_, fun h => ?_, List.Perm.refl _⟩
      · rcases List.mem_append.mp ha with z | z
        · exact List.mem_append_right _ (List.mem_append_left _ z)
        · rcases List.mem_append.mp (m a z) with z | z
          · exact List.mem_append_left _ z
          · exact List.mem_append_right _ (List.mem_append_right _ z)
      · have h1 := (perm3 B A1 B1).nodup_iff.mp h
        obtain ⟨a1, a2, a3⟩ := List.nodup_append.mp h1
        exact List.nodup_append.mpr ⟨a1, n a2, fun a ha b hb => a3 a ha b (m b hb)⟩
  | @par ps w u σ env A1 B1 hw r ih =>
    intro i v t B hp ht
    cases i with
    | zero => cases hp
    | succ i =>
      obtain ⟨A', C, e, m, n, p⟩ := ih (i := i) hp ht
      refine ⟨A1 ++ A', _, .par hw e, fun a ha => ?_, fun h => ?_, List.Perm.refl _⟩
      · rcases List.mem_append.mp ha with z | z
        · exact List.mem_append_right _ (List.mem_append_left _ z)
        · rcases List.mem_append.mp (m a z) with z | z
          · exact List.mem_append_left _ z
          · exact List.mem_append_right _ (List.mem_append_right _ z)
      · have h1 := (perm3 B A1 B1).nodup_iff.mp h
        obtain ⟨a1, a2, a3⟩ := List.nodup_append.mp h1
        exact List.nodup_append.mpr ⟨a1, n a2, fun a ha b hb => a3 a ha b (m b hb)⟩
theorem EvIs.putR {F : Fm} (h : EvIs K G H ps σ env A) {i : Nat} {v : V} {t : T} {B : List Addr} (hp : isPar (getS env i) = false) (ht : TIs K G H v t B) (R : Rel F G H (B ++ A)) : ∃ A', EvIs K G H ps (σ.set i (some v)) (setS env i (.loc t)) A' ∧ Rel F G H A' := by
  obtain ⟨A', C, e, m, n, p⟩ := h.put hp ht
  exact ⟨A', e, R.sub m (n R.nd)⟩
/-- a slot forgotten -/
theorem EvIs.unset (h : EvIs K G H ps σ env A) : ∀ {i : Nat}, isPar (getS env i) = false → ∃ A', EvIs K G H ps (σ.set i Option.none) (setS env i .none) A' ∧ A'.Sublist A := by
  induction h with
  | nil => intro i hp; exact ⟨[], .nil, List.Sublist.refl _⟩
  | @none ps o σ env A r ih =>
    intro i hp
    cases i with
    | zero => exact ⟨A, .none r, List.Sublist.refl _⟩
    | succ i =>
      obtain ⟨A', e, s⟩ := ih (i := i) hp
      exact ⟨A', .none e, s⟩
  | @loc ps w u σ env A1 B1 hw r ih =>
    intro i hp
    cases i with
    | zero => exact ⟨B1, .none r, List.sublist_append_right _ _⟩
    | succ i =>
      obtain ⟨A', e, s⟩ := ih (i := i) hp
      exact ⟨A1 ++ A', .loc hw e, List.Sublist.append_left s _⟩
  | @par ps w u σ env A1 B1 hw r ih =>
    intro i hp
    cases i with
    | zero => cases hp
    | succ i =>
      obtain ⟨A', e, s⟩ := ih (i := i) hp
      exact ⟨A1 ++ A', .par hw e, List.Sublist.append_left s _⟩
end
def isD : T → Bool
  | .d _ => true
  | _ => false
theorem isD_frz {t : T} (h : isD t = true) : t = .d t.frz := by
  cases t with
  | d x => rfl
  | _ => cases h
/-- a name's value; a tree of our own becomes data there -/
def dVar (i : Nat) : DE := fun env => match treeS (getS env i) with
  | some t => .ok (.d t.frz) (if isD t = true then env else setS env i (reS (getS env i) (.d t.frz)))
  | none => .stuck
def dC (x : D) : DE := fun env => .ok (.d x) env
section
variable {X : Cx} {W : WX} {e e2 e3 : Expr} {d d2 d3 : DE} {pos : Pos} {x : Str} {i : Nat}
def visB (sc : Scope) (x : Str) : Bool := match sc.names.lookup x with
  | some .local => true
  | some .cell => true
  | some .free => true
  | _ => false
theorem vis_of {sc : Scope} {x : Str} (h : visB sc x = true) : Vis sc x := by
  unfold visB at h
  cases q : sc.names.lookup x with
  | none => rw [q] at h; cases h
  | some k =>
    rw [q] at h
    cases k with
    | «local» => exact .inl q
    | cell => exact .inr (.inl q)
    | free => exact .inr (.inr q)
    | _ => cases h
theorem SE.var (hN : X.N[i]? = some x) (hv : visB X.env.scope x = true) (hd : (x == ("__debug__" : Str)) = false) (hcd : (x == ("__classdict__" : Str)) = false) : SE X W (.Name x pos) (dVar i) := fun F ps σ G H A Q env I R P => by
  unfold dVar at P
  cases q : treeS (getS env i) with
  | none => rw [q] at P; exact P.elim
  | some t =>
    rw [q] at P
    obtain ⟨v, B, C, h1, h2, h3, h4⟩ := I.tree q
    refine RunE.fix (PE.go (pe_var hN (vis_of hv) hd hcd) ⟨v, h1, fun pins s J => ?_⟩)
    by_cases hD : isD t = true
    · have P : okE X F ps σ G Q (.d t.frz) (if isD t = true then env else setS env i (reS (getS env i) (.d t.frz))) := P
      rw [if_pos hD] at P
      rw [isD_frz hD] at h2
      cases h2 with
      | d h2 => exact ⟨H, J, P v G H A [] (Same.refl G) I (.d h2) R⟩
    · have P : okE X F ps σ G Q (.d t.frz) (if isD t = true then env else setS env i (reS (getS env i) (.d t.frz))) := P
      rw [if_neg hD] at P
      obtain ⟨G2, H2, J2, s2, k2, i2, R2⟩ := h2.freeze (R.perm h3) J
      obtain ⟨A', e', p⟩ := h4 G2 H2 (.d t.frz) [] s2 k2 (.d i2)
      exact ⟨H2, J2, P v G2 H2 A' [] s2 e' (.d i2) (R2.perm p.symm)⟩
theorem SE.int {n : Int} {j : Nat} : SE X W (.Constant (.int n) j pos) (dC (.int n)) := fun F ps σ G H A Q env I R P => PE.go pe_int (P _ G H A [] (Same.refl G) I (.d (.int n)) R)
theorem SE.bl {n : Bool} {j : Nat} : SE X W (.Constant (.bool n) j pos) (dC (.bool n)) := fun F ps σ G H A Q env I R P => PE.go pe_bl (P _ G H A [] (Same.refl G) I (.d (.bl n)) R)
theorem SE.non {j : Nat} : SE X W (.Constant .none j pos) (dC .none) := fun F ps σ G H A Q env I R P => PE.go pe_non (P _ G H A [] (Same.refl G) I (.d .non) R)
theorem SE.str {n : Str} {j : Nat} : SE X W (.Constant (.str n) j pos) (dC (.str n)) := fun F ps σ G H A Q env I R P => PE.go pe_str (P _ G H A [] (Same.refl G) I (.d (.str n)) R)
/-- a constant of the module -/
theorem SE.globI {n : Int} (h : ∃ t, X.mg x = some (.int n t)) (hg : Gl X x) (hd : (x == ("__debug__" : Str)) = false) : SE X W (.Name x pos) (dC (.int n)) := fun F ps σ G H A Q env I R P => by
  obtain ⟨t, h⟩ := h
  exact PE.go (pe_glob (v := .int n) hg h ⟨t, rfl⟩ hd) (P _ G H A [] (Same.refl G) I (.d (.int n)) R)
theorem SE.globS {n : Str} (h : ∃ t, X.mg x = some (.str n t)) (hg : Gl X x) (hd : (x == ("__debug__" : Str)) = false) : SE X W (.Name x pos) (dC (.str n)) := fun F ps σ G H A Q env I R P => by
  obtain ⟨t, h⟩ := h
  exact PE.go (pe_glob (v := .str n) hg h ⟨t, rfl⟩ hd) (P _ G H A [] (Same.refl G) I (.d (.str n)) R)
end

/-! ### by values -/
def RunO (X : Cx) (f : Value → Value → Sem Value) (x y : V) (H : Hp) (Q : VK) : Prop := ∀ (pins : List (Addr × Obj)) (s : Shared) (σ : L2.St) (v u : Value), Inv X pins σ H s → RelV x v → RelV y u → wpAny (model X.prog X.w) X.A (f v u) (EP X pins σ Q) X.xe s
theorem opr_run {X : Cx} {f : Value → Value → Sem Value} : OpR X f (RunO X f) := fun pins s σ H x y v u Q I rx ry h => h pins s σ v u I rx ry
theorem OpR.go {X : Cx} {f : Value → Value → Sem Value} {r : R2} {x y : V} {H : Hp} {Q : VK} (h : OpR X f r) (q : r x y H Q) : RunO X f x y H Q := fun pins s σ v u I rx ry => h pins s σ H x y v u Q I rx ry q
def RunI (X : Cx) (x y : V) (H : Hp) (Q : VK) : Prop := ∀ (value slice : Expr) (pins : List (Addr × Obj)) (s : Shared) (σ : L2.St) (v u : Value), Inv X pins σ H s → RelV x v → RelV y u →
    subscripted slice false v u = operate [v, u] (getItem v u) → wpAny (model X.prog X.w) X.A (subscriptTail value slice v u) (EP X pins σ Q) X.xe s
theorem ixr_run {X : Cx} : IxR X (RunI X) := fun value slice pins s σ H x y v u Q I rx ry h hs => h value slice pins s σ v u I rx ry hs
theorem IxR.go {X : Cx} {r : R2} {x y : V} {H : Hp} {Q : VK} (h : IxR X r) (q : r x y H Q) : RunI X x y H Q := fun value slice pins s σ v u I rx ry hs => h value slice pins s σ H x y v u Q I rx ry q hs
def RunC (X : Cx) (f : Value) (xs : List V) (H : Hp) (Q : VK) : Prop := ∀ (pins : List (Addr × Obj)) (s : Shared) (σ : L2.St) (us : List Value), Inv X pins σ H s → Vals xs us → wpAny (model X.prog X.w) X.A (call f us) (EP X pins σ Q) X.xe s
theorem cr_run {X : Cx} {f : Value} : CallR X f (RunC X f) := fun pins s σ H xs us Q I r h => h pins s σ us I r
theorem CallR.go {X : Cx} {f : Value} {r : List V → Hp → VK → Prop} {xs : List V} {H : Hp} {Q : VK} (h : CallR X f r) (q : r xs H Q) : RunC X f xs H Q := fun pins s σ us I rx => h pins s σ H xs us Q I rx q
def RunU (X : Cx) (f : Value → Sem Value) (x : V) (H : Hp) (Q : VK) : Prop := ∀ (pins : List (Addr × Obj)) (s : Shared) (σ : L2.St) (v : Value), Inv X pins σ H s → RelV x v → wpAny (model X.prog X.w) X.A (f v) (EP X pins σ Q) X.xe s
theorem ur_run {X : Cx} {f : Value → Sem Value} : UnR X f (RunU X f) := fun pins s σ H x v Q I r h => h pins s σ v I r
theorem UnR.go {X : Cx} {f : Value → Sem Value} {r : V → Hp → VK → Prop} {x : V} {H : Hp} {Q : VK} (h : UnR X f r) (q : r x H Q) : RunU X f x H Q := fun pins s σ v I rx => h pins s σ H x v Q I rx q
/-- what is to be shown of an operation's end -/
def OkO (X : Cx) (F : Fm) (G H : Hp) (A : List Addr) (Q : VK) (t : T) : Prop := ∀ v G' H' B, Same G G' → (∀ a ∈ A, H' a = H a) → TIs X.K G' H' v t B → Rel F G' H' (B ++ A) → Q v H'
def ofO (o : Option T) (env : Ev) : Rs T := match o with
  | some t => .ok t env
  | none => .stuck
section
variable {X : Cx} {W : WX} {F : Fm} {G H : Hp} {A : List Addr} {Q : VK} {t : T} {e e2 : Expr} {d d2 : DE} {pos : Pos}
theorem OkO.data {x : D} {v : V} (k : OkO X F G H A Q (.d x)) (h : Is X.K G v x) (R : Rel F G H A) : Q v H := k v G H [] (Same.refl G) (fun _ _ => rfl) (.d h) R
theorem OkO.lst {xs : List V} {ds : List D} {p : Addr} (k : OkO X F G H A Q (.lst ds)) (h : IsL X.K G xs ds) (R : Rel F G H A) (hp : H p = none) : Q (.ref p) (upd H p (.lst xs)) :=
  k _ G _ [p] (Same.refl G) (upd_off (R.ne hp)) (.lst upd_same h) (R.mine hp)
theorem OkO.tup {xs : List V} {ds : List D} {p : Addr} (k : OkO X F G H A Q (.d (.tup ds))) (h : IsL X.K G xs ds) (R : Rel F G H A) (hp : H p = none) : Q (.ref p) (upd H p (.tup xs)) := by
  have s := Same.new (o := .tup xs) R.gh hp
  exact k _ _ _ [] s (upd_off (R.ne hp)) (.d (.tup upd_same (h.up s))) (R.new hp)
def OpD (X : Cx) (f : Value → Value → Sem Value) (o : D → D → Option T) : Prop := ∀ (F : Fm) (A : List Addr) (G H : Hp) (x y : V) (a b : D) (t : T) (Q : VK), Rel F G H A → Is X.K G x a → Is X.K G y b → o a b = some t → OkO X F G H A Q t → RunO X f x y H Q
def dBin (o : D → D → Option T) (d1 d2 : DE) : DE := fun env => (d1 env).bindD fun x env => (d2 env).bindD fun y env => ofO (o x y) env
/-- how an operation's end is an expression's -/
theorem okO_of {ps : List V} {σ : L2.St} {env : Ev} {G0 : Hp} (I : EvIs X.K G H ps σ env A) (R : Rel F G H A) (s : Same G0 G) (P : okE X F ps σ G0 Q t env) : OkO X F G H A Q t := fun v G' H' B s' k i R' => P v G' H' A B (s.trans s') (I.up s' k) i R'
theorem bin_run {op : Value → Value → Sem Value} {o : D → D → Option T} (ho : OpD X op o) (h1 : SE X W e d) (h2 : SE X W e2 d2) {ps : List V} {σ : L2.St} {env : Ev} (I : EvIs X.K G H ps σ env A) (R : Rel F G H A)
    (P : (dBin o d d2 env).post (okE X F ps σ G Q) (exP X W F ps G)) : RunE X e σ H fun x H1 => RunE X e2 σ H1 fun y H2 => RunO X op x y H2 Q :=
  h1.seqD I R P fun x env1 v G1 H1 A1 s1 I1 i1 R1 P1 => h2.seqD I1 R1 P1 fun y env2 u G2 H2 A2 s2 I2 i2 R2 P2 => by
    cases q : o x y with
    | none => rw [q] at P2; exact P2.elim
    | some t => rw [q] at P2; exact ho F A2 G2 H2 v u x y t Q R2 (i1.up s2) i2 q (okO_of I2 R2 (s1.trans s2) P2)
theorem SE.bin {op : Operator} {o : D → D → Option T} (ho : OpD X (binaryOp op) o) (h1 : SE X W e d) (h2 : SE X W e2 d2) : SE X W (.BinOp e op e2 pos) (dBin o d d2) := fun F ps σ G H A Q env I R P =>
  PE.go (pe_op opr_run pe_run pe_run) (bin_run ho h1 h2 I R P)
theorem SE.cmp {op : CmpOp} {o : D → D → Option T} (ho : OpD X (compareOp op) o) (hm : behindInMarks op e2 = false) (h1 : SE X W e d) (h2 : SE X W e2 d2) : SE X W (.Compare e [op] [e2] pos) (dBin o d d2) := fun F ps σ G H A Q env I R P =>
  PE.go (pe_cmpR opr_run pe_run pe_run hm) (bin_run ho h1 h2 I R P)
/-- as a test -/
def asB (d : DE) : Ev → Rs Bool := fun env => (d env).bind fun t env => match t with
  | .d (.bool b) => .ok b env
  | _ => .stuck
theorem ST.val (he : ∀ whole, isTrue e X.env whole = (do let v ← whole; standAt e.pos; holding [v] (truthy v))) (h : SE X W e d) : ST X W e (asB d) := fun F ps σ G H A Q env I R P =>
  PT.go (pt_val pe_run he) (h.seq I R P fun t env1 v G1 H1 A1 B s1 I1 i1 R1 P1 => by
    cases i1 with
    | d i1 =>
      cases i1 with
      | bl b => exact ⟨b, rfl, P1 G1 H1 A1 s1 I1 R1⟩
      | _ => exact P1.elim
    | _ => exact P1.elim)
theorem ST.cmp {op : CmpOp} {o : D → D → Option T} (ho : OpD X (compareOp op) o) (hm : behindInMarks op e2 = false) (h1 : SE X W e d) (h2 : SE X W e2 d2) : ST X W (.Compare e [op] [e2] pos) (asB (dBin o d d2)) := fun F ps σ G H A Q env I R P => by
  refine PT.go (pt_cmpR opr_run pe_run pe_run hm) ?_
  have Z : SE X W (.Compare e [op] [e2] pos) (dBin o d d2) := SE.cmp ho hm h1 h2
  unfold asB at P
  refine h1.seqD (ok := okT X F ps σ G Q) (f := fun x env => (((d2 env).bindD fun y env => ofO (o x y) env)).bind fun t env => match t with
    | .d (.bool b) => .ok b env
    | _ => .stuck) I R (by
      have : (dBin o d d2 env).bind (fun t env => match t with
        | .d (.bool b) => Rs.ok b env
        | _ => .stuck) = (d env).bindD (fun x env => (((d2 env).bindD fun y env => ofO (o x y) env)).bind fun t env => match t with
        | .d (.bool b) => .ok b env
        | _ => .stuck) := by unfold dBin; cases d env <;> rfl
      rw [this] at P; exact P) fun x env1 v G1 H1 A1 s1 I1 i1 R1 P1 => ?_
  refine h2.seqD (ok := okT X F ps σ G Q) (f := fun y env => (ofO (o x y) env).bind fun t env => match t with
    | .d (.bool b) => .ok b env
    | _ => .stuck) I1 R1 (by cases q : d2 env1 <;> rw [q] at P1 <;> exact P1) fun y env2 u G2 H2 A2 s2 I2 i2 R2 P2 => ?_
  cases q : o x y with
  | none => rw [q] at P2; exact P2.elim
  | some t =>
    rw [q] at P2
    refine ho F A2 G2 H2 v u x y t _ R2 (i1.up s2) i2 q fun v' G3 H3 B s3 k3 i3 R3 => ?_
    cases i3 with
    | d i3 =>
      cases i3 with
      | bl b => exact ⟨b, rfl, P2 G3 H3 A2 ((s1.trans s2).trans s3) (I2.up s3 k3) R3⟩
      | _ => exact P2.elim
    | _ => exact P2.elim
theorem ST.wp (h : SW X W e d') : ST X W e d' := fun F ps σ G H A Q env I R P => PT.go pw_run.pt (h F ps σ G H A Q env I R P)
end
end Dn

namespace Dn
open PySem PySem.Spec PyProof.Rows L2
/-! ### a value as it is seen: data, or a tree of our own -/
/-- ..: what an operation may know of its operand -/
structure Vw (K : PySem.W.Frag) (G H : Hp) (v : V) (x : D) : Prop where
  none : x = .none → v = .non
  bool : ∀ b, x = .bool b → v = .bl b
  int : ∀ i, x = .int i → v = .int i
  str : ∀ z, x = .str z → v = .str z
  list : ∀ ds, x = .list ds → ∃ a xs, v = .ref a ∧ H a = some (.lst xs) ∧ IsL K G xs ds
  tup : ∀ ds, x = .tup ds → ∃ a xs, v = .ref a ∧ H a = some (.tup xs) ∧ IsL K G xs ds
  dict : ∀ ks ds, x = .dict ks ds → ∃ a kv, v = .ref a ∧ Rd H a (.dK kv) ∧ kv.map (·.1) = ks ∧ IsL K G (kv.map (·.2)) ds
  dictT : ∀ ks ds, x = .dictT ks ds → ∃ a kv, v = .ref a ∧ Rd H a (.dT kv) ∧ kv.map (·.1) = ks ∧ IsL K G (kv.map (·.2)) ds
  inst : ∀ C ns ds, x = .inst C ns ds → ∃ a dx fs, v = .ref a ∧ H a = some (.ins (He.ga K C) dx fs) ∧ fs.map (·.1) = ns
  scr : ∀ ns, x = .scr ns → ∃ a, v = .ref a ∧ SqL K H a (ns.map V.int)
  val : ∀ u, x = .val u → v = u
section
variable {K : PySem.W.Frag} {G H : Hp} {v : V} {x : D}
theorem Is.vw (s : Same G H) (h : Is K G v x) : Vw K G H v x where
  none := fun e => by subst e; exact h.noneE
  bool := fun _ e => by subst e; exact h.boolE
  int := fun _ e => by subst e; exact h.intE
  str := fun _ e => by subst e; exact h.strE
  list := fun _ e => by
    subst e
    obtain ⟨a, xs, e, ha, r⟩ := h.listE
    exact ⟨a, xs, e, s _ _ ha, r⟩
  tup := fun _ e => by
    subst e
    obtain ⟨a, xs, e, ha, r⟩ := h.tupE
    exact ⟨a, xs, e, s _ _ ha, r⟩
  dict := fun _ _ e => by
    subst e
    obtain ⟨a, od, kv, e, ha, hk, r⟩ := h.dictE
    exact ⟨a, kv, e, .inr ⟨od, s _ _ ha⟩, hk, r⟩
  dictT := fun _ _ e => by
    subst e
    obtain ⟨a, od, kv, e, ha, hk, r⟩ := h.dictTE
    exact ⟨a, kv, e, .inr ⟨od, s _ _ ha⟩, hk, r⟩
  inst := fun _ _ _ e => by
    subst e
    obtain ⟨a, dx, fs, e, ha, hn, r⟩ := h.instE
    exact ⟨a, dx, fs, e, s _ _ ha, hn⟩
  scr := fun _ e => by
    subst e
    cases h with
    | scr ns h => exact ⟨_, rfl, s.seq h⟩
  val := fun _ e => by subst e; exact h.valE
theorem TIs.vw {t : T} {B : List Addr} (s : Same G H) (h : TIs K G H v t B) : Vw K G H v t.frz := by
  cases h with
  | d h => exact h.vw s
  | lst h r => constructor <;> intros <;> rename_i e <;> cases e <;> first | exact ⟨_, _, rfl, h, r⟩
  | dict h hk r => constructor <;> intros <;> rename_i e <;> cases e <;> first | exact ⟨_, _, rfl, .inl h, hk, r⟩
  | dictT h hk r => constructor <;> intros <;> rename_i e <;> cases e <;> first | exact ⟨_, _, rfl, .inl h, hk, r⟩
  | inst h hn r => constructor <;> intros <;> rename_i e <;> cases e <;> first | exact ⟨_, _, _, rfl, h, hn⟩
end
/-- e's value is seen -/
def SV (X : Cx) (W : WX) (e : Expr) (d : Ev → Rs D) : Prop :=
  ∀ F ps σ G H A Q env, EvIs X.K G H ps σ env A → Rel F G H A → (d env).post (fun x env' => ∀ v G' H' A', Same G G' → EvIs X.K G' H' ps σ env' A' → Vw X.K G' H' v x → Rel F G' H' A' → Q v H') (exP X W F ps G) → RunE X e σ H Q
def frzD (d : DE) : Ev → Rs D := fun env => (d env).bindD fun x env => .ok x env
def pk (i : Nat) : Ev → Rs D := fun env => match treeS (getS env i) with
  | some t => .ok t.frz env
  | none => .stuck
section
variable {X : Cx} {W : WX} {F : Fm} {ps : List V} {σ : L2.St} {G H : Hp} {A : List Addr} {env : Ev} {β : Type} {ok : β → Ev → Prop} {e e2 e3 : Expr} {es : List Expr} {d d2 d3 : DE} {b1 b2 : Ev → Rs Bool} {K1 : VK} {x : Str} {pos : Pos} {i : Nat}
theorem SV.seq {d : Ev → Rs D} (h : SV X W e d) {f : D → Ev → Rs β} (I : EvIs X.K G H ps σ env A) (R : Rel F G H A) (P : ((d env).bind f).post ok (exP X W F ps G))
    (k : ∀ x env' v G' H' A', Same G G' → EvIs X.K G' H' ps σ env' A' → Vw X.K G' H' v x → Rel F G' H' A' → (f x env').post ok (exP X W F ps G') → K1 v H') : RunE X e σ H K1 := by
  refine h F ps σ G H A K1 env I R ?_
  cases q : d env with
  | ok t env' =>
    rw [q] at P
    exact fun v G' H' A' s I' i R' => k t env' v G' H' A' s I' i R' (post_up s P)
  | exc c fs env' => rw [q] at P; exact P
  | stuck => rw [q] at P; exact P
theorem SE.v (h : SE X W e d) : SV X W e (frzD d) := fun F ps σ G H A Q env I R P =>
  h.seqD I R P fun x env1 v G1 H1 A1 s1 I1 i1 R1 P1 => P1 v G1 H1 A1 s1 I1 (i1.vw R1.gh) R1
theorem SV.pk (hN : X.N[i]? = some x) (hv : visB X.env.scope x = true) (hd : (x == ("__debug__" : Str)) = false) (hcd : (x == ("__classdict__" : Str)) = false) : SV X W (.Name x pos) (pk i) := fun F ps σ G H A Q env I R P => by
  unfold Dn.pk at P
  cases q : treeS (getS env i) with
  | none => rw [q] at P; exact P.elim
  | some t =>
    rw [q] at P
    obtain ⟨v, B, C, h1, h2, h3, h4⟩ := I.tree q
    exact PE.go (pe_var hN (vis_of hv) hd hcd) ⟨v, h1, P v G H A (Same.refl G) I (h2.vw R.gh) R⟩
/-! ### operators of two -/
def OpV (X : Cx) (f : Value → Value → Sem Value) (o : D → D → Option T) : Prop := ∀ (F : Fm) (A : List Addr) (G H : Hp) (x y : V) (a b : D) (t : T) (Q : VK), Rel F G H A → Vw X.K G H x a → Vw X.K G H y b → o a b = some t → OkO X F G H A Q t → RunO X f x y H Q
def dBn (o : D → D → Option T) (d1 : DE) (d2 : Ev → Rs D) : DE := fun env => (d1 env).bindD fun x env => (d2 env).bind fun y env => ofO (o x y) env
/-- the first a name -/
def dBp (o : D → D → Option T) (i : Nat) (d2 : Ev → Rs D) : DE := fun env => (pk i env).bind fun _ env => (d2 env).bind fun y env => (pk i env).bind fun x env => ofO (o x y) env
theorem bn_run {op : Value → Value → Sem Value} {o : D → D → Option T} {d2 : Ev → Rs D} (ho : OpV X op o) (h1 : SE X W e d) (h2 : SV X W e2 d2) {f : T → Ev → Rs β} (I : EvIs X.K G H ps σ env A) (R : Rel F G H A)
    (P : ((dBn o d d2 env).bind f).post ok (exP X W F ps G)) {Q : VK} (k : ∀ t env' v G' H' A' B, Same G G' → EvIs X.K G' H' ps σ env' A' → TIs X.K G' H' v t B → Rel F G' H' (B ++ A') → (f t env').post ok (exP X W F ps G') → Q v H') :
    RunE X e σ H fun x H1 => RunE X e2 σ H1 fun y H2 => RunO X op x y H2 Q := by
  have P1 : (((d env).bindD fun x env => ((d2 env).bind fun y env => ofO (o x y) env).bind f)).post ok (exP X W F ps G) := by
    unfold dBn at P
    cases q : d env <;> rw [q] at P <;> exact P
  refine h1.seqD I R P1 fun x env1 v G1 H1 A1 s1 I1 i1 R1 P1 => ?_
  have P2 : ((d2 env1).bind fun y env => (ofO (o x y) env).bind f).post ok (exP X W F ps G1) := by
    cases q : d2 env1 <;> rw [q] at P1 <;> exact P1
  refine h2.seq I1 R1 P2 fun y env2 u G2 H2 A2 s2 I2 i2 R2 P3 => ?_
  cases q : o x y with
  | none => rw [q] at P3; exact P3.elim
  | some t =>
    rw [q] at P3
    exact ho F A2 G2 H2 v u x y t Q R2 ((i1.up s2).vw R2.gh) i2 q fun v' G3 H3 B s3 k3 i3 R3 => k t env2 v' G3 H3 A2 B ((s1.trans s2).trans s3) (I2.up s3 k3) i3 R3 (post_up s3 P3)
theorem bp_run {op : Value → Value → Sem Value} {o : D → D → Option T} {d2 : Ev → Rs D} (ho : OpV X op o) (hN : X.N[i]? = some x) (hv : visB X.env.scope x = true) (hd : (x == ("__debug__" : Str)) = false) (hcd : (x == ("__classdict__" : Str)) = false) (h2 : SV X W e2 d2) {f : T → Ev → Rs β} (I : EvIs X.K G H ps σ env A) (R : Rel F G H A)
    (P : ((dBp o i d2 env).bind f).post ok (exP X W F ps G)) {Q : VK} (k : ∀ t env' v G' H' A' B, Same G G' → EvIs X.K G' H' ps σ env' A' → TIs X.K G' H' v t B → Rel F G' H' (B ++ A') → (f t env').post ok (exP X W F ps G') → Q v H') :
    RunE X (.Name x pos) σ H fun x H1 => RunE X e2 σ H1 fun y H2 => RunO X op x y H2 Q := by
  unfold dBp at P
  cases q0 : treeS (getS env i) with
  | none =>
    have : Dn.pk i env = .stuck := by unfold Dn.pk; rw [q0]
    rw [this] at P; exact P.elim
  | some t0 =>
    have e0 : Dn.pk i env = .ok t0.frz env := by unfold Dn.pk; rw [q0]
    rw [e0] at P
    obtain ⟨v, B, C, hv1, _, _, _⟩ := I.tree q0
    refine PE.go (pe_var hN (vis_of hv) hd hcd) ⟨v, hv1, ?_⟩
    have P2 : ((d2 env).bind fun y env => ((Dn.pk i env).bind fun x env => ofO (o x y) env).bind f).post ok (exP X W F ps G) := by
      have P : (((d2 env).bind fun y env => (Dn.pk i env).bind fun x env => ofO (o x y) env).bind f).post ok (exP X W F ps G) := P
      cases q : d2 env <;> rw [q] at P <;> exact P
    refine h2.seq I R P2 fun y env2 u G2 H2 A2 s2 I2 i2 R2 P3 => ?_
    cases q1 : treeS (getS env2 i) with
    | none =>
      have : Dn.pk i env2 = .stuck := by unfold Dn.pk; rw [q1]
      rw [this] at P3; exact P3.elim
    | some t1 =>
      have e1 : Dn.pk i env2 = .ok t1.frz env2 := by unfold Dn.pk; rw [q1]
      rw [e1] at P3
      obtain ⟨v1, B1, C1, hv2, ht1, _, _⟩ := I2.tree q1
      rw [hv1] at hv2
      cases hv2
      have P3 : ((ofO (o t1.frz y) env2).bind f).post ok (exP X W F ps G2) := P3
      cases q : o t1.frz y with
      | none => rw [q] at P3; exact P3.elim
      | some t =>
        rw [q] at P3
        exact ho F A2 G2 H2 v u t1.frz y t Q R2 (ht1.vw R2.gh) i2 q fun v' G3 H3 B s3 k3 i3 R3 => k t env2 v' G3 H3 A2 B (s2.trans s3) (I2.up s3 k3) i3 R3 (post_up s3 P3)
theorem bind_ok {r : Rs T} : r.bind (fun t env => .ok t env) = r := by cases r <;> rfl
theorem SE.bn {op : Operator} {o : D → D → Option T} {d2 : Ev → Rs D} (ho : OpV X (binaryOp op) o) (h1 : SE X W e d) (h2 : SV X W e2 d2) : SE X W (.BinOp e op e2 pos) (dBn o d d2) := fun F ps σ G H A Q env I R P =>
  PE.go (pe_op opr_run pe_run pe_run) (bn_run (f := fun t env => .ok t env) (ok := okE X F ps σ G Q) ho h1 h2 I R (by rw [bind_ok]; exact P) fun t env' v G' H' A' B s I' i R' P' => (show okE X F ps σ G Q t env' from P') v G' H' A' B s I' i R')
theorem SE.bp {op : Operator} {o : D → D → Option T} {d2 : Ev → Rs D} {p2 : Pos} (ho : OpV X (binaryOp op) o) (hN : X.N[i]? = some x) (hv : visB X.env.scope x = true) (hd : (x == ("__debug__" : Str)) = false) (hcd : (x == ("__classdict__" : Str)) = false) (h2 : SV X W e2 d2) : SE X W (.BinOp (.Name x p2) op e2 pos) (dBp o i d2) := fun F ps σ G H A Q env I R P =>
  PE.go (pe_op opr_run pe_run pe_run) (bp_run (f := fun t env => .ok t env) (ok := okE X F ps σ G Q) ho hN hv hd hcd h2 I R (by rw [bind_ok]; exact P) fun t env' v G' H' A' B s I' i R' P' => (show okE X F ps σ G Q t env' from P') v G' H' A' B s I' i R')
theorem SE.cmpn {op : CmpOp} {o : D → D → Option T} {d2 : Ev → Rs D} (ho : OpV X (compareOp op) o) (hm : behindInMarks op e2 = false) (h1 : SE X W e d) (h2 : SV X W e2 d2) : SE X W (.Compare e [op] [e2] pos) (dBn o d d2) := fun F ps σ G H A Q env I R P =>
  PE.go (pe_cmpR opr_run pe_run pe_run hm) (bn_run (f := fun t env => .ok t env) (ok := okE X F ps σ G Q) ho h1 h2 I R (by rw [bind_ok]; exact P) fun t env' v G' H' A' B s I' i R' P' => (show okE X F ps σ G Q t env' from P') v G' H' A' B s I' i R')
theorem SE.cmpp {op : CmpOp} {o : D → D → Option T} {d2 : Ev → Rs D} {p2 : Pos} (ho : OpV X (compareOp op) o) (hm : behindInMarks op e2 = false) (hN : X.N[i]? = some x) (hv : visB X.env.scope x = true) (hd : (x == ("__debug__" : Str)) = false) (hcd : (x == ("__classdict__" : Str)) = false) (h2 : SV X W e2 d2) : SE X W (.Compare (.Name x p2) [op] [e2] pos) (dBp o i d2) := fun F ps σ G H A Q env I R P =>
  PE.go (pe_cmpR opr_run pe_run pe_run hm) (bp_run (f := fun t env => .ok t env) (ok := okE X F ps σ G Q) ho hN hv hd hcd h2 I R (by rw [bind_ok]; exact P) fun t env' v G' H' A' B s I' i R' P' => (show okE X F ps σ G Q t env' from P') v G' H' A' B s I' i R')
/-- a tree as a test's answer -/
def tB (t : T) (env : Ev) : Rs Bool := match t with
  | .d (.bool b) => .ok b env
  | _ => .stuck
def aB (d : DE) : Ev → Rs Bool := fun env => (d env).bind tB
theorem tB_run {Q : Bool → Hp → Prop} {t : T} {env' : Ev} {v : V} {G' H' : Hp} {A' B : List Addr} (s : Same G G') (I' : EvIs X.K G' H' ps σ env' A') (i : TIs X.K G' H' v t B) (R' : Rel F G' H' (B ++ A')) (P : (tB t env').post (okT X F ps σ G Q) (exP X W F ps G')) : ∃ k, v = .bl k ∧ Q k H' := by
  cases i with
  | d i =>
    cases i with
    | bl b => exact ⟨b, rfl, P G' H' A' s I' R'⟩
    | _ => exact P.elim
  | _ => exact P.elim
theorem ST.v (he : ∀ whole, isTrue e X.env whole = (do let v ← whole; standAt e.pos; holding [v] (truthy v))) (h : SE X W e d) : ST X W e (aB d) := fun F ps σ G H A Q env I R P =>
  PT.go (pt_val pe_run he) (h.seq I R P fun t env1 v G1 H1 A1 B s1 I1 i1 R1 P1 => tB_run s1 I1 i1 R1 P1)
theorem ST.cmpn {op : CmpOp} {o : D → D → Option T} {d2 : Ev → Rs D} (ho : OpV X (compareOp op) o) (hm : behindInMarks op e2 = false) (h1 : SE X W e d) (h2 : SV X W e2 d2) : ST X W (.Compare e [op] [e2] pos) (aB (dBn o d d2)) := fun F ps σ G H A Q env I R P =>
  PT.go (pt_cmpR opr_run pe_run pe_run hm) (bn_run ho h1 h2 I R P fun t env' v G' H' A' B s I' i R' P' => tB_run s I' i R' P')
theorem ST.cmpp {op : CmpOp} {o : D → D → Option T} {d2 : Ev → Rs D} {p2 : Pos} (ho : OpV X (compareOp op) o) (hm : behindInMarks op e2 = false) (hN : X.N[i]? = some x) (hv : visB X.env.scope x = true) (hd : (x == ("__debug__" : Str)) = false) (hcd : (x == ("__classdict__" : Str)) = false) (h2 : SV X W e2 d2) : ST X W (.Compare (.Name x p2) [op] [e2] pos) (aB (dBp o i d2)) := fun F ps σ G H A Q env I R P =>
  PT.go (pt_cmpR opr_run pe_run pe_run hm) (bp_run ho hN hv hd hcd h2 I R P fun t env' v G' H' A' B s I' i R' P' => tB_run s I' i R' P')
/-! ### and, or, not, if -/
def dAnd (b1 b2 : Ev → Rs Bool) : Ev → Rs Bool := fun env => (b1 env).bind fun b env => if b = true then b2 env else .ok false env
def dOr (b1 b2 : Ev → Rs Bool) : Ev → Rs Bool := fun env => (b1 env).bind fun b env => if b = true then .ok true env else b2 env
def dNot (b1 : Ev → Rs Bool) : Ev → Rs Bool := fun env => (b1 env).bind fun b env => .ok (!b) env
theorem SW.and (h1 : ST X W e b1) (h2 : SW X W (.BoolOp .And (e2 :: es) pos) b2) : SW X W (.BoolOp .And (e :: e2 :: es) pos) (dAnd b1 b2) := fun F ps σ G H A Q env I R P =>
  PW.go (pw_and pt_run pw_run) (h1.seq I R P fun b env1 G1 H1 A1 s1 I1 R1 P1 => by
    cases b with
    | true => exact h2 F ps σ G1 H1 A1 Q env1 I1 R1 (Rs.post.imp P1 (fun _ _ _ h => okT.up s1 h) fun _ _ _ _ h => h)
    | false => exact P1 G1 H1 A1 s1 I1 R1)
theorem SW.or (h1 : ST X W e b1) (h2 : SW X W (.BoolOp .Or (e2 :: es) pos) b2) : SW X W (.BoolOp .Or (e :: e2 :: es) pos) (dOr b1 b2) := fun F ps σ G H A Q env I R P =>
  PW.go (pw_or pt_run pw_run) (h1.seq I R P fun b env1 G1 H1 A1 s1 I1 R1 P1 => by
    cases b with
    | false => exact h2 F ps σ G1 H1 A1 Q env1 I1 R1 (Rs.post.imp P1 (fun _ _ _ h => okT.up s1 h) fun _ _ _ _ h => h)
    | true => exact P1 G1 H1 A1 s1 I1 R1)
theorem SW.and1 (h1 : ST X W e b1) : SW X W (.BoolOp .And [e] pos) b1 := fun F ps σ G H A Q env I R P => PW.go (pw_and1 pt_run) (h1 F ps σ G H A Q env I R P)
theorem SW.or1 (h1 : ST X W e b1) : SW X W (.BoolOp .Or [e] pos) b1 := fun F ps σ G H A Q env I R P => PW.go (pw_or1 pt_run) (h1 F ps σ G H A Q env I R P)
theorem ST.not (h1 : ST X W e b1) : ST X W (.UnaryOp .Not e pos) (dNot b1) := fun F ps σ G H A Q env I R P =>
  PT.go (pt_not pt_run) (h1.seq I R P fun b env1 G1 H1 A1 s1 I1 R1 P1 => P1 G1 H1 A1 s1 I1 R1)
/-- .. as values, all but the last bools -/
def dAndV (d1 d2 : DE) : DE := fun env => (d1 env).bind fun t env => (tB t env).bind fun b env => if b = true then d2 env else .ok (.d (.bool false)) env
def dOrV (d1 d2 : DE) : DE := fun env => (d1 env).bind fun t env => (tB t env).bind fun b env => if b = true then .ok (.d (.bool true)) env else d2 env
theorem SE.and (h1 : SE X W e d) (h2 : SE X W (.BoolOp .And (e2 :: es) pos) d2) : SE X W (.BoolOp .And (e :: e2 :: es) pos) (dAndV d d2) := fun F ps σ G H A Q env I R P =>
  PE.go (pe_and pe_run pe_run) (h1.seq I R P fun t env1 v G1 H1 A1 B s1 I1 i1 R1 P1 => by
    cases i1 with
    | d i1 =>
      cases i1 with
      | bl b =>
        refine ⟨b, rfl, ?_⟩
        cases b with
        | true => exact h2 F ps σ G1 H1 A1 Q env1 I1 R1 (Rs.post.imp P1 (fun _ _ _ h => okE.up s1 h) fun _ _ _ _ h => h)
        | false => exact P1 _ G1 H1 A1 [] s1 I1 (.d (.bl _)) R1
      | _ => exact P1.elim
    | _ => exact P1.elim)
theorem SE.or (h1 : SE X W e d) (h2 : SE X W (.BoolOp .Or (e2 :: es) pos) d2) : SE X W (.BoolOp .Or (e :: e2 :: es) pos) (dOrV d d2) := fun F ps σ G H A Q env I R P =>
  PE.go (pe_or pe_run pe_run) (h1.seq I R P fun t env1 v G1 H1 A1 B s1 I1 i1 R1 P1 => by
    cases i1 with
    | d i1 =>
      cases i1 with
      | bl b =>
        refine ⟨b, rfl, ?_⟩
        cases b with
        | false => exact h2 F ps σ G1 H1 A1 Q env1 I1 R1 (Rs.post.imp P1 (fun _ _ _ h => okE.up s1 h) fun _ _ _ _ h => h)
        | true => exact P1 _ G1 H1 A1 [] s1 I1 (.d (.bl _)) R1
      | _ => exact P1.elim
    | _ => exact P1.elim)
theorem SE.one {op : BoolOp} (h : SE X W e d) : SE X W (.BoolOp op [e] pos) d := fun F ps σ G H A Q env I R P => PE.go (pe_one pe_run) (h F ps σ G H A Q env I R P)
def dNotV (d1 : DE) : DE := fun env => (d1 env).bind fun t env => (tB t env).bind fun b env => .ok (.d (.bool (!b))) env
theorem SE.not (h : SE X W e d) : SE X W (.UnaryOp .Not e pos) (dNotV d) := fun F ps σ G H A Q env I R P =>
  PE.go (pe_not pe_run) (h.seq I R P fun t env1 v G1 H1 A1 B s1 I1 i1 R1 P1 => by
    cases i1 with
    | d i1 =>
      cases i1 with
      | bl b => exact ⟨b, rfl, P1 _ G1 H1 A1 [] s1 I1 (.d (.bl _)) R1⟩
      | _ => exact P1.elim
    | _ => exact P1.elim)
def dIf (b : Ev → Rs Bool) (d1 d2 : DE) : DE := fun env => (b env).bind fun b env => if b = true then d1 env else d2 env
theorem SE.ife (hc : ST X W e b1) (h1 : SE X W e2 d2) (h0 : SE X W e3 d3) : SE X W (.IfExp e e2 e3 pos) (dIf b1 d2 d3) := fun F ps σ G H A Q env I R P =>
  PE.go (pe_ifExp pt_run pe_run pe_run) (hc.seq I R P fun b env1 G1 H1 A1 s1 I1 R1 P1 => by
    cases b with
    | true => exact h1 F ps σ G1 H1 A1 Q env1 I1 R1 (Rs.post.imp P1 (fun _ _ _ h => okE.up s1 h) fun _ _ _ _ h => h)
    | false => exact h0 F ps σ G1 H1 A1 Q env1 I1 R1 (Rs.post.imp P1 (fun _ _ _ h => okE.up s1 h) fun _ _ _ _ h => h))
/-! ### one operand -/
def dUn (o : D → Option T) (d1 : Ev → Rs D) : DE := fun env => (d1 env).bind fun x env => ofO (o x) env
theorem SE.un {op : UnaryOp} {o : D → Option T} {d1 : Ev → Rs D} (ho : ∀ (F : Fm) (A : List Addr) (G H : Hp) (x : V) (a : D) (t : T) (Q : VK), Rel F G H A → Vw X.K G H x a → o a = some t → OkO X F G H A Q t → RunU X (unaryOp op) x H Q) (h : SV X W e d1) : SE X W (.UnaryOp op e pos) (dUn o d1) := fun F ps σ G H A Q env I R P =>
  PE.go (pe_un ur_run pe_run) (h.seq I R P fun x env1 v G1 H1 A1 s1 I1 i1 R1 P1 => by
    cases q : o x with
    | none => rw [q] at P1; exact P1.elim
    | some t => rw [q] at P1; exact ho F A1 G1 H1 v x t Q R1 i1 q (okO_of I1 R1 s1 P1))
/-! ### truth -/
def truD : D → Option Bool
  | .none => some false
  | .bool b => some b
  | .int i => some (i != 0)
  | .str y => if y.length ≤ sizeLine then some ((y.length : Int) != 0) else none
  | .list ds => some !ds.isEmpty
  | .tup ds => some !ds.isEmpty
  | _ => none
def ofB (o : Option Bool) (env : Ev) : Rs Bool := match o with
  | some t => .ok t env
  | none => .stuck
def dTru (d1 : Ev → Rs D) : Ev → Rs Bool := fun env => (d1 env).bind fun x env => ofB (truD x) env
theorem isE_len {α β : Type} {xs : List α} {ys : List β} (h : xs.length = ys.length) : xs.isEmpty = ys.isEmpty := by
  cases xs <;> cases ys <;> first | rfl | (simp at h)
theorem tru_vw {K : PySem.W.Frag} {v : V} {x : D} {b : Bool} (h : Vw K G H v x) (e : truD x = some b) : TruV K v H b := by
  cases x with
  | none => rw [h.none rfl]; exact (Option.some.inj e).symm
  | bool => rw [h.bool _ rfl]; exact (Option.some.inj e).symm
  | int => rw [h.int _ rfl]; exact (Option.some.inj e).symm
  | str y =>
    rw [h.str _ rfl]
    have e : (if y.length ≤ sizeLine then some ((y.length : Int) != 0) else none) = some b := e
    by_cases hz : y.length ≤ sizeLine
    · rw [if_pos hz] at e; exact ⟨hz, (Option.some.inj e).symm⟩
    · rw [if_neg hz] at e; cases e
  | list ds =>
    obtain ⟨a, xs, rfl, ha, r⟩ := h.list _ rfl
    exact .inl ⟨xs, SqL.of ha, by rw [isE_len r.length]; exact (Option.some.inj e).symm⟩
  | tup ds =>
    obtain ⟨a, xs, rfl, ha, r⟩ := h.tup _ rfl
    exact .inr (.inl ⟨xs, SqT.of ha, by rw [isE_len r.length]; exact (Option.some.inj e).symm⟩)
  | _ => cases e
theorem ST.tru {d1 : Ev → Rs D} (he : ∀ whole, isTrue e X.env whole = (do let v ← whole; standAt e.pos; holding [v] (truthy v))) (h : SV X W e d1) : ST X W e (dTru d1) := fun F ps σ G H A Q env I R P =>
  PT.go (pt_truth pe_run he) (h.seq I R P fun x env1 v G1 H1 A1 s1 I1 i1 R1 P1 => by
    cases q : truD x with
    | none => rw [q] at P1; exact P1.elim
    | some b => rw [q] at P1; exact ⟨b, tru_vw i1 q, P1 G1 H1 A1 s1 I1 R1⟩)
/-! ### argument lists, displays -/
def dNil : Ev → Rs (List D) := fun env => .ok [] env
def dCons (d1 : DE) (ds : Ev → Rs (List D)) : Ev → Rs (List D) := fun env => (d1 env).bindD fun x env => (ds env).bind fun xs env => .ok (x :: xs) env
theorem SA.nil : SA X W [] dNil := fun F ps σ G H A Q env I R P => PA.go pa_nil (P [] G H A (Same.refl G) I .nil R)
theorem SA.cons {ds : Ev → Rs (List D)} (hs : starEach (e :: es) X.env = (false, eval e X.env) :: starEach es X.env) (h : SE X W e d) (t : SA X W es ds) : SA X W (e :: es) (dCons d ds) := fun F ps σ G H A Q env I R P =>
  PA.go (pa_cons pe_run pa_run hs) (h.seqD I R P fun x env1 v G1 H1 A1 s1 I1 i1 R1 P1 => t.seq I1 R1 P1 fun xs env2 vs G2 H2 A2 s2 I2 i2 R2 P2 => P2 (v :: vs) G2 H2 A2 (s1.trans s2) I2 (.cons (i1.up s2) i2) R2)
def dTup (ds : Ev → Rs (List D)) : DE := fun env => (ds env).bind fun xs env => if xs.length ≤ sizeLine then .ok (.d (.tup xs)) env else .stuck
def dLst (ds : Ev → Rs (List D)) : DE := fun env => (ds env).bind fun xs env => if xs.length ≤ sizeLine then .ok (.lst xs) env else .stuck
theorem SE.tup {ds : Ev → Rs (List D)} {k1} (h : SA X W es ds) : SE X W (.Tuple es k1 pos) (dTup ds) := fun F ps σ G H A Q env I R P =>
  PE.go (pe_tup pa_run) (h.seq I R P fun xs env1 vs G1 H1 A1 s1 I1 i1 R1 P1 => by
    by_cases hz : xs.length ≤ sizeLine
    · rw [if_pos hz] at P1
      exact ⟨by rw [i1.length]; exact hz, fun p hp => (okO_of I1 R1 s1 P1).tup i1 R1 hp⟩
    · rw [if_neg hz] at P1; exact P1.elim)
theorem SE.lst {ds : Ev → Rs (List D)} (h : SA X W es ds) : SE X W (.List es pos) (dLst ds) := fun F ps σ G H A Q env I R P =>
  PE.go (pe_lst pa_run) (h.seq I R P fun xs env1 vs G1 H1 A1 s1 I1 i1 R1 P1 => by
    by_cases hz : xs.length ≤ sizeLine
    · rw [if_pos hz] at P1
      exact ⟨by rw [i1.length]; exact hz, fun p hp => (okO_of I1 R1 s1 P1).lst i1 R1 hp⟩
    · rw [if_neg hz] at P1; exact P1.elim)
/-! ### a part -/
def lookK {κ : Type} [DecidableEq κ] : List κ → List D → κ → Option D
  | k :: ks, d :: ds, j => if k = j then some d else lookK ks ds j
  | _, _, _ => none
theorem lookK_val {κ : Type} [DecidableEq κ] {K : PySem.W.Frag} {j : κ} {d : D} : ∀ {kv : List (κ × V)} {ds : List D}, IsL K G (kv.map (·.2)) ds → lookK (kv.map (·.1)) ds j = some d → ∃ v, valV kv j = some v ∧ Is K G v d
  | [], ds, h, e => by cases e
  | p :: kv, [], h, e => by cases e
  | p :: kv, d0 :: ds, h, e => by
    cases h with
    | cons h t =>
      unfold lookK at e
      rw [List.map_cons] at e
      dsimp only at e
      by_cases hk : p.1 = j
      · rw [if_pos hk] at e
        cases e
        exact ⟨_, valV_pos hk, h⟩
      · rw [if_neg hk] at e
        obtain ⟨v, ev, iv⟩ := lookK_val t e
        exact ⟨v, by rw [valV_neg hk]; exact ev, iv⟩
theorem lookK_isSome {κ : Type} [DecidableEq κ] {K : PySem.W.Frag} {j : κ} : ∀ {kv : List (κ × V)} {ds : List D}, IsL K G (kv.map (·.2)) ds → (valV kv j).isSome = (lookK (kv.map (·.1)) ds j).isSome
  | [], ds, h => by cases h; rfl
  | p :: kv, ds, h => by
    cases h with
    | cons h t =>
      unfold lookK
      rw [List.map_cons]
      dsimp only
      by_cases hk : p.1 = j
      · rw [valV_pos hk, if_pos hk]; rfl
      · rw [valV_neg hk, if_neg hk]; exact lookK_isSome t
def keyD : D → Option Key
  | .int i => some (.inl i)
  | .str x => some (.inr x)
  | _ => none
theorem keyD_vw {K : PySem.W.Frag} {v : V} {x : D} {k : Key} (h : Vw K G H v x) (e : keyD x = some k) : v = kV k := by
  cases x with
  | int i => cases e; exact h.int _ rfl
  | str z => cases e; exact h.str _ rfl
  | _ => cases e
def keysD : List D → Option (List Key)
  | [] => some []
  | d :: ds => match keyD d, keysD ds with
    | some k, some ks => some (k :: ks)
    | _, _ => none
theorem keysD_is {K : PySem.W.Frag} : ∀ {ds : List D} {vs : List V} {ks : List Key}, IsL K G vs ds → keysD ds = some ks → vs = ks.map kV
  | [], _, _, h, e => by cases h; cases e; rfl
  | d :: ds, _, ks, h, e => by
    cases h with
    | cons h t =>
      unfold keysD at e
      cases q : keyD d with
      | none => rw [q] at e; cases e
      | some k =>
        cases q2 : keysD ds with
        | none => rw [q, q2] at e; cases e
        | some ks' =>
          rw [q, q2] at e
          cases e
          rw [List.map_cons, ← keysD_is t q2, keyD_vw (h.vw (Same.refl G)) q]
/-- a tuple as a key -/
def tkeyD : D → Option (List Key)
  | .tup ds => keysD ds
  | _ => none
def ixD : D → D → Option D
  | .list ds, .int i => atI ds i
  | .tup ds, .int i => atI ds i
  | .scr ns, .int i => (atI ns i).map .int
  | .str z, .int i => if z.length ≤ sizeLine then (atI z.cps.toList i).map fun c => .str ⟨#[c]⟩ else none
  | .dict ks ds, y => (keyD y).bind fun k => lookK ks ds k
  | .dictT ks ds, y => (tkeyD y).bind fun k => lookK ks ds k
  | _, _ => none
theorem atI_is {K : PySem.W.Frag} {xs : List V} {ds : List D} {i : Int} {d : D} (r : IsL K G xs ds) (e : atI ds i = some d) : ∃ v, atI xs i = some v ∧ Is K G v d := by
  obtain ⟨j, e1, e2⟩ := Option.bind_eq_some_iff.mp (show (ixN ds.length i).bind _ = some d from e)
  obtain ⟨v, ev, p⟩ := r.at e2
  refine ⟨v, ?_, p⟩
  show (ixN xs.length i).bind _ = some v
  rw [r.length, e1]; exact ev
theorem ix_dict {a : Addr} {y z : V} {Q : VK} (hu : X.A.units + 64 < cLine) (g : DGet H a y (some z)) (q : Q z H) : RunI X (.ref a) y H Q := by
  intro value slice pins s σ v u I rx ry hs
  cases rx
  exact PyProof.Rows.tail_any (dict_typeIs I g) PySem.F.slot_dict_getitem.lookup (d_getItem (by omega) I g ry fun w' s3 I3 rw' => ⟨z, H, I3, rw', q⟩) hs
theorem ixD_run {v u : V} {x y r : D} {Q : VK} {F : Fm} {A : List Addr} (hu : X.A.units + 64 < cLine) (R : Rel F G H A) (h1 : Vw X.K G H v x) (h2 : Vw X.K G H u y) (e : ixD x y = some r) (k : ∀ z, Is X.K G z r → Q z H) : RunI X v u H Q := by
  cases x with
  | list ds =>
    cases y with
    | int i =>
      obtain ⟨a, xs, rfl, ha, rr⟩ := h1.list _ rfl
      obtain ⟨z, ez, iz⟩ := atI_is rr e
      exact IxR.go ix_seq (.inl ⟨a, xs, i, z, rfl, h2.int _ rfl, SqL.of ha, ez, k z iz⟩)
    | _ => cases e
  | tup ds =>
    cases y with
    | int i =>
      obtain ⟨a, xs, rfl, ha, rr⟩ := h1.tup _ rfl
      obtain ⟨z, ez, iz⟩ := atI_is rr e
      exact IxR.go ix_seq (.inr (.inl ⟨a, xs, i, z, rfl, h2.int _ rfl, SqT.of ha, ez, k z iz⟩))
    | _ => cases e
  | scr ns =>
    cases y with
    | int i =>
      obtain ⟨a, rfl, ha⟩ := h1.scr _ rfl
      obtain ⟨n, e1, e2⟩ := Option.map_eq_some_iff.mp (show (atI ns i).map D.int = some r from e)
      subst e2
      obtain ⟨z, ez, iz⟩ := atI_is (K := X.K) (G := G) (i := i) (ds := ns.map D.int) (IsL.of_ints ns) (d := .int n) (by
        obtain ⟨j, e3, e4⟩ := Option.bind_eq_some_iff.mp (show (ixN ns.length i).bind _ = some n from e1)
        show (ixN (ns.map D.int).length i).bind _ = _
        rw [List.length_map, e3]
        show (ns.map D.int)[j]? = _
        rw [List.getElem?_map, e4]; rfl)
      exact IxR.go ix_seq (.inl ⟨a, _, i, z, rfl, h2.int _ rfl, ha, ez, k z iz⟩)
    | _ => cases e
  | str z =>
    cases y with
    | int i =>
      have e : (if z.length ≤ sizeLine then (atI z.cps.toList i).map fun c => D.str ⟨#[c]⟩ else none) = some r := e
      by_cases hz : z.length ≤ sizeLine
      · rw [if_pos hz] at e
        obtain ⟨c, e1, e2⟩ := Option.map_eq_some_iff.mp e
        subst e2
        exact IxR.go ix_seq (.inr (.inr ⟨z, i, c, h1.str _ rfl, h2.int _ rfl, hz, e1, k _ (.str _)⟩))
      · rw [if_neg hz] at e; cases e
    | _ => cases e
  | dict ks ds =>
    obtain ⟨a, kv, rfl, ha, hk, rr⟩ := h1.dict _ _ rfl
    obtain ⟨kk, e1, e2⟩ := Option.bind_eq_some_iff.mp (show (keyD y).bind _ = some r by cases y <;> exact e)
    subst hk
    obtain ⟨z, ez, iz⟩ := lookK_val rr e2
    exact ix_dict hu (.inl ⟨kv, kk, ha, keyD_vw h2 e1, ez.symm⟩) (k z iz)
  | dictT ks ds =>
    obtain ⟨a, kv, rfl, ha, hk, rr⟩ := h1.dictT _ _ rfl
    obtain ⟨kk, e1, e2⟩ := Option.bind_eq_some_iff.mp (show (tkeyD y).bind _ = some r by cases y <;> exact e)
    subst hk
    obtain ⟨z, ez, iz⟩ := lookK_val rr e2
    cases y with
    | tup es =>
      obtain ⟨b, xs, rfl, hb, rb⟩ := h2.tup _ rfl
      rw [keysD_is rb e1] at hb
      exact ix_dict hu (.inr ⟨kv, kk, b, ha, rfl, hb, ez.symm⟩) (k z iz)
    | _ => cases e1
  | _ => cases e
def ofD (o : Option D) (env : Ev) : Rs T := match o with
  | some x => .ok (.d x) env
  | none => .stuck
def dIx (d1 : DE) (d2 : Ev → Rs D) : DE := fun env => (d1 env).bindD fun x env => (d2 env).bind fun y env => ofD (ixD x y) env
def dIxp (i : Nat) (d2 : Ev → Rs D) : DE := fun env => (pk i env).bind fun _ env => (d2 env).bind fun y env => (pk i env).bind fun x env => ofD (ixD x y) env
theorem SE.ix {d2 : Ev → Rs D} (hu : X.A.units + 64 < cLine) (hs : PlainIx e2) (h1 : SE X W e d) (h2 : SV X W e2 d2) : SE X W (.Subscript e e2 pos) (dIx d d2) := fun F ps σ G H A Q env I R P =>
  PE.go (pe_ix ixr_run pe_run pe_run hs) (h1.seqD I R P fun x env1 v G1 H1 A1 s1 I1 i1 R1 P1 => h2.seq I1 R1 P1 fun y env2 u G2 H2 A2 s2 I2 i2 R2 P2 => by
    cases q : ixD x y with
    | none => rw [q] at P2; exact P2.elim
    | some r => rw [q] at P2; exact ixD_run hu R2 ((i1.up s2).vw R2.gh) i2 q fun z iz => P2 z G2 H2 A2 [] (s1.trans s2) I2 (.d iz) R2)
theorem SE.ixp {d2 : Ev → Rs D} {p2 : Pos} (hu : X.A.units + 64 < cLine) (hs : PlainIx e2) (hN : X.N[i]? = some x) (hv : visB X.env.scope x = true) (hd : (x == ("__debug__" : Str)) = false) (hcd : (x == ("__classdict__" : Str)) = false) (h2 : SV X W e2 d2) : SE X W (.Subscript (.Name x p2) e2 pos) (dIxp i d2) := fun F ps σ G H A Q env I R P => by
  refine PE.go (pe_ix ixr_run pe_run pe_run hs) ?_
  unfold dIxp at P
  cases q0 : treeS (getS env i) with
  | none =>
    have : Dn.pk i env = .stuck := by unfold Dn.pk; rw [q0]
    rw [this] at P; exact P.elim
  | some t0 =>
    have e0 : Dn.pk i env = .ok t0.frz env := by unfold Dn.pk; rw [q0]
    rw [e0] at P
    obtain ⟨v, B, C, hv1, _, _, _⟩ := I.tree q0
    refine PE.go (pe_var hN (vis_of hv) hd hcd) ⟨v, hv1, ?_⟩
    refine h2.seq I R P fun y env2 u G2 H2 A2 s2 I2 i2 R2 P3 => ?_
    cases q1 : treeS (getS env2 i) with
    | none =>
      have : Dn.pk i env2 = .stuck := by unfold Dn.pk; rw [q1]
      rw [this] at P3; exact P3.elim
    | some t1 =>
      have e1 : Dn.pk i env2 = .ok t1.frz env2 := by unfold Dn.pk; rw [q1]
      rw [e1] at P3
      obtain ⟨v1, B1, C1, hv2, ht1, _, _⟩ := I2.tree q1
      rw [hv1] at hv2
      cases hv2
      have P3 : (ofD (ixD t1.frz y) env2).post (okE X F ps σ G Q) (exP X W F ps G2) := P3
      cases q : ixD t1.frz y with
      | none => rw [q] at P3; exact P3.elim
      | some r => rw [q] at P3; exact ixD_run hu R2 (ht1.vw R2.gh) i2 q fun z iz => P3 z G2 H2 A2 [] s2 I2 (.d iz) R2
end
end Dn

namespace PySem
theorem gives_sub_bb (a b : Bool) : Gives (Builtin.«int.__sub__» ⟨[.bool a, .bool b], []⟩) (.int ((if a = true then (1 : Int) else 0) - (if b = true then (1 : Int) else 0))) :=
  .of_wp fun M A E s Q h => by obtain ⟨hp, g, d, tk, os⟩ := s; wp_walk; exact ⟨_, rfl, h⟩
theorem sub_bb {prog : Program} {w : World} {A : Around} {E : Value → Shared → Prop} {s : Shared} {Q : Value → Shared → Prop} {a b : Bool} (h : Q (.int ((if a = true then (1 : Int) else 0) - (if b = true then (1 : Int) else 0)) s.toks) { s with toks := s.toks + 1 }) :
    wpAny (model prog w) A (binaryOp .Sub (.bool a) (.bool b)) Q E s :=
  wpAny_binaryOp_same (op := .Sub) (T := "bool") rfl rfl F.fills_bool_sub F.slot_bool_sub (call_gives F.slot_bool_sub rfl F.entry_int_sub (F.args_int_sub_2 _ _) (gives_sub_bb a b) (Made.post_and trivial h))
end PySem
namespace Dn
open PySem PySem.Spec PyProof.Rows L2
section
variable {X : Cx}
theorem op_sub_bb : OpR X (binaryOp .Sub) (fun x y H Q => ∃ i j, x = .bl i ∧ y = .bl j ∧ Q (.int ((if i = true then (1 : Int) else 0) - (if j = true then (1 : Int) else 0))) H) := by
  intro pins s σ H x y v u Q I rx ry h
  obtain ⟨i, j, rfl, rfl, q⟩ := h
  cases rx
  cases ry
  exact sub_bb ⟨.int _, H, I.tok _, ⟨_, rfl⟩, q⟩
/-! ### + -/
def oAdd : D → D → Option T
  | .int i, .int j => some (.d (.int (i + j)))
  | .str a, .str b => if a.length + b.length ≤ sizeLine then some (.d (.str (a ++ b))) else none
  | .list a, .list b => if a.length + b.length ≤ sizeLine then some (.lst (a ++ b)) else none
  | .tup a, .tup b => if 0 < a.length ∧ 0 < b.length ∧ a.length + b.length ≤ sizeLine then some (.d (.tup (a ++ b))) else none
  | _, _ => none
theorem ov_add : OpV X (binaryOp .Add) oAdd := fun F A G H x y a b t Q R h1 h2 e k => by
  cases a with
  | int i =>
    cases b with
    | int j => cases e; exact OpR.go op_add ⟨i, j, h1.int _ rfl, h2.int _ rfl, k.data (.int _) R⟩
    | _ => cases e
  | str i =>
    cases b with
    | str j =>
      have e : (if i.length + j.length ≤ sizeLine then some (T.d (.str (i ++ j))) else none) = some t := e
      by_cases hz : i.length + j.length ≤ sizeLine
      · rw [if_pos hz] at e; cases e; exact OpR.go op_add_str ⟨i, j, h1.str _ rfl, h2.str _ rfl, hz, k.data (.str _) R⟩
      · rw [if_neg hz] at e; cases e
    | _ => cases e
  | list i =>
    cases b with
    | list j =>
      have e : (if i.length + j.length ≤ sizeLine then some (T.lst (i ++ j)) else none) = some t := e
      by_cases hz : i.length + j.length ≤ sizeLine
      · rw [if_pos hz] at e
        cases e
        obtain ⟨p, xs, rfl, hp, r1⟩ := h1.list _ rfl
        obtain ⟨q, ys, rfl, hq, r2⟩ := h2.list _ rfl
        exact OpR.go op_cat ⟨p, q, xs, ys, rfl, rfl, hp, hq, by rw [r1.length, r2.length]; exact hz, fun p' hp' => k.lst (r1.app r2) R hp'⟩
      · rw [if_neg hz] at e; cases e
    | _ => cases e
  | tup i =>
    cases b with
    | tup j =>
      have e : (if 0 < i.length ∧ 0 < j.length ∧ i.length + j.length ≤ sizeLine then some (T.d (.tup (i ++ j))) else none) = some t := e
      by_cases hz : 0 < i.length ∧ 0 < j.length ∧ i.length + j.length ≤ sizeLine
      · rw [if_pos hz] at e
        cases e
        obtain ⟨p, xs, rfl, hp, r1⟩ := h1.tup _ rfl
        obtain ⟨q, ys, rfl, hq, r2⟩ := h2.tup _ rfl
        have l1 := r1.length
        have l2 := r2.length
        refine OpR.go op_catT ⟨p, q, xs, ys, rfl, rfl, SqT.of hp, SqT.of hq, ?_, by omega, ?_, fun _ p' hp' => k.tup (r1.app r2) R hp'⟩
        · intro z; subst z; simp at l1; omega
        · intro z; subst z; simp at l2; omega
      · rw [if_neg hz] at e; cases e
    | _ => cases e
  | _ => cases e
def oSub : D → D → Option T
  | .int i, .int j => some (.d (.int (i - j)))
  | .bool a, .bool b => some (.d (.int ((if a = true then (1 : Int) else 0) - (if b = true then (1 : Int) else 0))))
  | _, _ => none
theorem ov_sub : OpV X (binaryOp .Sub) oSub := fun F A G H x y a b t Q R h1 h2 e k => by
  cases a with
  | int i =>
    cases b with
    | int j => cases e; exact OpR.go op_sub ⟨i, j, h1.int _ rfl, h2.int _ rfl, k.data (.int _) R⟩
    | _ => cases e
  | bool i =>
    cases b with
    | bool j => cases e; exact OpR.go op_sub_bb ⟨i, j, h1.bool _ rfl, h2.bool _ rfl, k.data (.int _) R⟩
    | _ => cases e
  | _ => cases e
/-- a product may be made -/
def mulOk (i j : Int) : Bool := decide (i.natAbs.log2 + j.natAbs.log2 < 1000000)
def oMul : D → D → Option T
  | .int i, .int j => if mulOk i j then some (.d (.int (i * j))) else none
  | .list a, .int n => if 0 ≤ n ∧ n < 1000000 ∧ a.length * n.toNat ≤ sizeLine then some (.lst (List.replicate n.toNat a).flatten) else none
  | _, _ => none
theorem isL_rep {K : PySem.W.Frag} {G : Hp} {xs : List V} {ds : List D} (r : IsL K G xs ds) : ∀ n : Nat, IsL K G (List.replicate n xs).flatten (List.replicate n ds).flatten
  | 0 => .nil
  | n + 1 => by rw [List.replicate_succ, List.replicate_succ, List.flatten_cons, List.flatten_cons]; exact r.app (isL_rep r n)
theorem ov_mul : OpV X (binaryOp .Mult) oMul := fun F A G H x y a b t Q R h1 h2 e k => by
  cases a with
  | int i =>
    cases b with
    | int j =>
      have e : (if mulOk i j = true then some (T.d (.int (i * j))) else none) = some t := e
      by_cases hz : mulOk i j = true
      · rw [if_pos hz] at e; cases e; exact OpR.go op_mulW ⟨i, j, h1.int _ rfl, h2.int _ rfl, (show i.natAbs.log2 + j.natAbs.log2 < 1000000 from of_decide_eq_true hz), k.data (.int _) R⟩
      · rw [if_neg hz] at e; cases e
    | _ => cases e
  | list i =>
    cases b with
    | int n =>
      have e : (if 0 ≤ n ∧ n < 1000000 ∧ i.length * n.toNat ≤ sizeLine then some (T.lst (List.replicate n.toNat i).flatten) else none) = some t := e
      by_cases hz : 0 ≤ n ∧ n < 1000000 ∧ i.length * n.toNat ≤ sizeLine
      · rw [if_pos hz] at e
        cases e
        obtain ⟨p, xs, rfl, hp, r1⟩ := h1.list _ rfl
        exact OpR.go op_rep ⟨p, n, xs, rfl, h2.int _ rfl, hp, by omega, by omega, by rw [r1.length]; exact hz.2.2, fun p' hp' => k.lst (isL_rep r1 _) R hp'⟩
      · rw [if_neg hz] at e; cases e
    | _ => cases e
  | _ => cases e
def divOk (j : Int) : Bool := decide (j ≠ 0) && decide (j.natAbs.log2 < 9000)
def oDiv : D → D → Option T
  | .int i, .int j => if divOk j then some (.d (.int (i.fdiv j))) else none
  | _, _ => none
def CDivG (_ j : Int) : Prop := j ≠ 0 ∧ j.natAbs.log2 < 9000
theorem op_fdivG : OpR X (binaryOp .FloorDiv) (rI CDivG fun i j => .int (i.fdiv j)) := opI fun _ _ _ _ _ _ _ hc q => floordiv_int hc.1 q (.inl (PyProof.noPylong_of_log2 hc.2))
theorem ov_div : OpV X (binaryOp .FloorDiv) oDiv := fun F A G H x y a b t Q R h1 h2 e k => by
  cases a with
  | int i =>
    cases b with
    | int j =>
      have e : (if divOk j = true then some (T.d (.int (i.fdiv j))) else none) = some t := e
      by_cases hz : divOk j = true
      · rw [if_pos hz] at e
        cases e
        have hz := (Bool.and_eq_true _ _).mp hz
        exact OpR.go op_fdivG ⟨i, j, h1.int _ rfl, h2.int _ rfl, ⟨of_decide_eq_true hz.1, of_decide_eq_true hz.2⟩, k.data (.int _) R⟩
      · rw [if_neg hz] at e; cases e
    | _ => cases e
  | _ => cases e
def oMod : D → D → Option T
  | .int i, .int j => if j = 0 then none else some (.d (.int (i.fmod j)))
  | _, _ => none
theorem ov_mod : OpV X (binaryOp .Mod) oMod := fun F A G H x y a b t Q R h1 h2 e k => by
  cases a with
  | int i =>
    cases b with
    | int j =>
      have e : (if j = 0 then none else some (T.d (.int (i.fmod j)))) = some t := e
      by_cases hz : j = 0
      · rw [if_pos hz] at e; cases e
      · rw [if_neg hz] at e; cases e; exact OpR.go op_modN ⟨i, j, h1.int _ rfl, h2.int _ rfl, hz, k.data (.int _) R⟩
    | _ => cases e
  | _ => cases e
def powOk (i j : Int) : Bool := decide (0 ≤ j ∧ j ≤ 1000000 ∧ i.natAbs < 2 ^ 64)
def oPow : D → D → Option T
  | .int i, .int j => if powOk i j then some (.d (.int (i ^ j.toNat))) else none
  | _, _ => none
theorem ov_pow : OpV X (binaryOp .Pow) oPow := fun F A G H x y a b t Q R h1 h2 e k => by
  cases a with
  | int i =>
    cases b with
    | int j =>
      have e : (if powOk i j = true then some (T.d (.int (i ^ j.toNat))) else none) = some t := e
      by_cases hz : powOk i j = true
      · rw [if_pos hz] at e; cases e; exact OpR.go op_pow ⟨i, j, h1.int _ rfl, h2.int _ rfl, (show 0 ≤ j ∧ j ≤ 1000000 ∧ i.natAbs < 2 ^ 64 from of_decide_eq_true hz), k.data (.int _) R⟩
      · rw [if_neg hz] at e; cases e
    | _ => cases e
  | _ => cases e
def oNeg : D → Option T
  | .int i => some (.d (.int (-i)))
  | _ => none
theorem uv_neg (F : Fm) (A : List Addr) (G H : Hp) (x : V) (a : D) (t : T) (Q : VK) (R : Rel F G H A) (h : Vw X.K G H x a) (e : oNeg a = some t) (k : OkO X F G H A Q t) : RunU X (unaryOp .USub) x H Q := by
  cases a with
  | int i => cases e; exact UnR.go un_neg ⟨i, h.int _ rfl, k.data (.int _) R⟩
  | _ => cases e
/-! ### < <= > >= -/
def oLt : D → D → Option T
  | .int i, .int j => some (.d (.bool (decide (i < j))))
  | .str i, .str j => some (.d (.bool (decide (i.cps.toList < j.cps.toList))))
  | _, _ => none
def oLe : D → D → Option T
  | .int i, .int j => some (.d (.bool (decide (i ≤ j))))
  | _, _ => none
def oGt : D → D → Option T
  | .int i, .int j => some (.d (.bool (decide (j < i))))
  | _, _ => none
def oGe : D → D → Option T
  | .int i, .int j => some (.d (.bool (decide (j ≤ i))))
  | _, _ => none
theorem ov_lt : OpV X (compareOp .Lt) oLt := fun F A G H x y a b t Q R h1 h2 e k => by
  cases a with
  | int i =>
    cases b with
    | int j => cases e; exact OpR.go op_lt ⟨i, j, h1.int _ rfl, h2.int _ rfl, k.data (.bl _) R⟩
    | _ => cases e
  | str i =>
    cases b with
    | str j => cases e; exact OpR.go op_lt_str ⟨i, j, h1.str _ rfl, h2.str _ rfl, k.data (.bl _) R⟩
    | _ => cases e
  | _ => cases e
theorem ov_le : OpV X (compareOp .LtE) oLe := fun F A G H x y a b t Q R h1 h2 e k => by
  cases a with
  | int i =>
    cases b with
    | int j => cases e; exact OpR.go op_le ⟨i, j, h1.int _ rfl, h2.int _ rfl, k.data (.bl _) R⟩
    | _ => cases e
  | _ => cases e
theorem ov_gt : OpV X (compareOp .Gt) oGt := fun F A G H x y a b t Q R h1 h2 e k => by
  cases a with
  | int i =>
    cases b with
    | int j => cases e; exact OpR.go op_gt ⟨i, j, h1.int _ rfl, h2.int _ rfl, k.data (.bl _) R⟩
    | _ => cases e
  | _ => cases e
theorem ov_ge : OpV X (compareOp .GtE) oGe := fun F A G H x y a b t Q R h1 h2 e k => by
  cases a with
  | int i =>
    cases b with
    | int j => cases e; exact OpR.go op_ge ⟨i, j, h1.int _ rfl, h2.int _ rfl, k.data (.bl _) R⟩
    | _ => cases e
  | _ => cases e
/-! ### is -/
def isB (x : D) (b : Bool) : Option Bool := match x with
  | .bool c => some (decide (c = b))
  | .none => some false
  | .int _ => some false
  | .str _ => some false
  | .tup _ => some false
  | .list _ => some false
  | .dict _ _ => some false
  | .dictT _ _ => some false
  | .inst _ _ _ => some false
  | _ => none
def isN (x : D) : Option Bool := match x with
  | .none => some true
  | .bool _ => some false
  | .int _ => some false
  | .str _ => some false
  | .tup _ => some false
  | .list _ => some false
  | .dict _ _ => some false
  | .dictT _ _ => some false
  | .inst _ _ _ => some false
  | _ => none
def isD2 (x y : D) : Option Bool := match y with
  | .none => isN x
  | .bool b => isB x b
  | _ => none
def oIs (x y : D) : Option T := (isD2 x y).map fun b => .d (.bool b)
def oIsNot (x y : D) : Option T := (isD2 x y).map fun b => .d (.bool (!b))
theorem isN_vw {K : PySem.W.Frag} {G H : Hp} {v : V} {x : D} {b : Bool} (h : Vw K G H v x) (e : isN x = some b) : decide (v = .non) = b := by
  cases x with
  | none => rw [h.none rfl]; cases e; rfl
  | bool => rw [h.bool _ rfl]; cases e; rfl
  | int => rw [h.int _ rfl]; cases e; rfl
  | str => rw [h.str _ rfl]; cases e; rfl
  | tup => obtain ⟨a, xs, rfl, _⟩ := h.tup _ rfl; cases e; rfl
  | list => obtain ⟨a, xs, rfl, _⟩ := h.list _ rfl; cases e; rfl
  | dict => obtain ⟨a, xs, rfl, _⟩ := h.dict _ _ rfl; cases e; rfl
  | dictT => obtain ⟨a, xs, rfl, _⟩ := h.dictT _ _ rfl; cases e; rfl
  | inst => obtain ⟨a, dx, xs, rfl, _⟩ := h.inst _ _ _ rfl; cases e; rfl
  | _ => cases e
theorem isB_vw {K : PySem.W.Frag} {G H : Hp} {v : V} {x : D} {b c : Bool} (h : Vw K G H v x) (e : isB x c = some b) : decide (v = .bl c) = b := by
  cases x with
  | none => rw [h.none rfl]; cases e; rfl
  | bool d => rw [h.bool _ rfl]; cases e; cases c <;> cases d <;> rfl
  | int => rw [h.int _ rfl]; cases e; rfl
  | str => rw [h.str _ rfl]; cases e; rfl
  | tup => obtain ⟨a, xs, rfl, _⟩ := h.tup _ rfl; cases e; rfl
  | list => obtain ⟨a, xs, rfl, _⟩ := h.list _ rfl; cases e; rfl
  | dict => obtain ⟨a, xs, rfl, _⟩ := h.dict _ _ rfl; cases e; rfl
  | dictT => obtain ⟨a, xs, rfl, _⟩ := h.dictT _ _ rfl; cases e; rfl
  | inst => obtain ⟨a, dx, xs, rfl, _⟩ := h.inst _ _ _ rfl; cases e; rfl
  | _ => cases e
theorem op_isBl : OpR X (compareOp .Is) (fun x y H Q => ∃ b, y = .bl b ∧ (∀ n, x ≠ .ty n) ∧ Q (.bl (decide (x = .bl b))) H) := by
  intro pins s σ H x y v u Q I rx ry h
  obtain ⟨b, rfl, nt, q⟩ := h
  cases ry
  cases x with
  | non => cases rx; exact wpAny_pure (fin_bl I q rfl)
  | bl c => cases rx; exact wpAny_pure (fin_bl I q (by cases b <;> cases c <;> rfl))
  | int i => obtain ⟨t, rfl⟩ := rx; exact wpAny_pure (fin_bl I q rfl)
  | str i => obtain ⟨t, rfl⟩ := rx; exact wpAny_pure (fin_bl I q rfl)
  | byt i => obtain ⟨t, rfl⟩ := rx; exact wpAny_pure (fin_bl I q rfl)
  | flt i => obtain ⟨t, rfl⟩ := rx; exact wpAny_pure (fin_bl I q rfl)
  | ref a => cases rx; exact wpAny_pure (fin_bl I q rfl)
  | ty n => exact absurd rfl (nt n)
theorem op_isnotBl : OpR X (compareOp .IsNot) (fun x y H Q => ∃ b, y = .bl b ∧ (∀ n, x ≠ .ty n) ∧ Q (.bl (!decide (x = .bl b))) H) := by
  intro pins s σ H x y v u Q I rx ry h
  obtain ⟨b, rfl, nt, q⟩ := h
  cases ry
  cases x with
  | non => cases rx; exact wpAny_pure (fin_bl I q rfl)
  | bl c => cases rx; exact wpAny_pure (fin_bl I q (by cases b <;> cases c <;> rfl))
  | int i => obtain ⟨t, rfl⟩ := rx; exact wpAny_pure (fin_bl I q rfl)
  | str i => obtain ⟨t, rfl⟩ := rx; exact wpAny_pure (fin_bl I q rfl)
  | byt i => obtain ⟨t, rfl⟩ := rx; exact wpAny_pure (fin_bl I q rfl)
  | flt i => obtain ⟨t, rfl⟩ := rx; exact wpAny_pure (fin_bl I q rfl)
  | ref a => cases rx; exact wpAny_pure (fin_bl I q rfl)
  | ty n => exact absurd rfl (nt n)
theorem isB_nt {K : PySem.W.Frag} {G H : Hp} {v : V} {x : D} {b c : Bool} (h : Vw K G H v x) (e : isB x c = some b) : ∀ n, v ≠ .ty n := by
  intro n
  cases x with
  | none => rw [h.none rfl]; exact fun z => nomatch z
  | bool d => rw [h.bool _ rfl]; exact fun z => nomatch z
  | int => rw [h.int _ rfl]; exact fun z => nomatch z
  | str => rw [h.str _ rfl]; exact fun z => nomatch z
  | tup => obtain ⟨a, xs, rfl, _⟩ := h.tup _ rfl; exact fun z => nomatch z
  | list => obtain ⟨a, xs, rfl, _⟩ := h.list _ rfl; exact fun z => nomatch z
  | dict => obtain ⟨a, xs, rfl, _⟩ := h.dict _ _ rfl; exact fun z => nomatch z
  | dictT => obtain ⟨a, xs, rfl, _⟩ := h.dictT _ _ rfl; exact fun z => nomatch z
  | inst => obtain ⟨a, dx, xs, rfl, _⟩ := h.inst _ _ _ rfl; exact fun z => nomatch z
  | _ => cases e
theorem ov_is : OpV X (compareOp .Is) oIs := fun F A G H x y a b t Q R h1 h2 e k => by
  obtain ⟨c, e1, e2⟩ := Option.map_eq_some_iff.mp e
  subst e2
  cases b with
  | none => exact OpR.go op_isN ⟨h2.none rfl, by rw [isN_vw h1 e1]; exact k.data (.bl _) R⟩
  | bool d => exact OpR.go op_isBl ⟨d, h2.bool _ rfl, isB_nt h1 e1, by rw [isB_vw h1 e1]; exact k.data (.bl _) R⟩
  | _ => cases e1
theorem ov_isnot : OpV X (compareOp .IsNot) oIsNot := fun F A G H x y a b t Q R h1 h2 e k => by
  obtain ⟨c, e1, e2⟩ := Option.map_eq_some_iff.mp e
  subst e2
  cases b with
  | none => exact OpR.go op_notN ⟨h2.none rfl, by rw [isN_vw h1 e1]; exact k.data (.bl _) R⟩
  | bool d => exact OpR.go op_isnotBl ⟨d, h2.bool _ rfl, isB_nt h1 e1, by rw [isB_vw h1 e1]; exact k.data (.bl _) R⟩
  | _ => cases e1
/-! ### == of data (no dicts, no instances in it) -/
mutual
def D.py : D → Option PyData
  | .none => some .none
  | .bool b => some (.bool b)
  | .int i => some (.int i)
  | .str x => some (.str x)
  | .tup ds => match pyL ds with
    | some ps => some (.tuple ps)
    | none => none
  | .list ds => match pyL ds with
    | some ps => some (.list ps)
    | none => none
  | _ => none
def pyL : List D → Option (List PyData)
  | [] => some []
  | d :: ds => match d.py, pyL ds with
    | some p, some ps => some (p :: ps)
    | _, _ => none
end
mutual
theorem Is.dp {K : PySem.W.Frag} {G H : Hp} (s : Same G H) {v : V} {d : D} (h : Is K G v d) {p : PyData} (e : d.py = some p) : Dp K H v p := by
  cases h with
  | non => cases e; exact .non
  | bl b => cases e; exact .bl b
  | int i => cases e; exact .int i
  | str x => cases e; exact .str x
  | @lst a xs ds h r =>
    unfold D.py at e
    cases q : pyL ds with
    | none => rw [q] at e; cases e
    | some ps => rw [q] at e; cases e; exact .lst (SqL.of (s _ _ h)) (IsL.dp s r q)
  | @tup a xs ds h r =>
    unfold D.py at e
    cases q : pyL ds with
    | none => rw [q] at e; cases e
    | some ps => rw [q] at e; cases e; exact .tup (SqT.of (s _ _ h)) (IsL.dp s r q)
  | _ => cases e
theorem IsL.dp {K : PySem.W.Frag} {G H : Hp} (s : Same G H) {vs : List V} {ds : List D} (h : IsL K G vs ds) {ps : List PyData} (e : pyL ds = some ps) : DpAll K H vs ps := by
  cases h with
  | nil => cases e; exact .nil
  | @cons v vs d ds h t =>
    unfold pyL at e
    cases q : d.py with
    | none => rw [q] at e; cases e
    | some p =>
      cases q2 : pyL ds with
      | none => rw [q, q2] at e; cases e
      | some ps' => rw [q, q2] at e; cases e; exact .cons (Is.dp s h q) (IsL.dp s t q2)
end
theorem Vw.dp {K : PySem.W.Frag} {G H : Hp} (s : Same G H) {v : V} {x : D} (h : Vw K G H v x) {p : PyData} (e : x.py = some p) : Dp K H v p := by
  cases x with
  | none => cases e; rw [h.none rfl]; exact .non
  | bool => cases e; rw [h.bool _ rfl]; exact .bl _
  | int => cases e; rw [h.int _ rfl]; exact .int _
  | str => cases e; rw [h.str _ rfl]; exact .str _
  | list ds =>
    obtain ⟨a, xs, rfl, ha, r⟩ := h.list _ rfl
    unfold D.py at e
    cases q : pyL ds with
    | none => rw [q] at e; cases e
    | some ps => rw [q] at e; cases e; exact .lst (SqL.of ha) (IsL.dp s r q)
  | tup ds =>
    obtain ⟨a, xs, rfl, ha, r⟩ := h.tup _ rfl
    unfold D.py at e
    cases q : pyL ds with
    | none => rw [q] at e; cases e
    | some ps => rw [q] at e; cases e; exact .tup (SqT.of ha) (IsL.dp s r q)
  | _ => cases e
def eqD (x y : D) : Option Bool := match x.py, y.py with
  | some p, some q => if SeqAt.shaped p && SeqAt.shaped q then some (PyData.eqv p q) else none
  | _, _ => none
theorem eqD_py {x y : D} {b : Bool} (e : eqD x y = some b) : ∃ p q, x.py = some p ∧ y.py = some q ∧ SeqAt.shaped p = true ∧ SeqAt.shaped q = true ∧ b = PyData.eqv p q := by
  unfold eqD at e
  cases h1 : x.py with
  | none => rw [h1] at e; cases e
  | some p =>
    cases h2 : y.py with
    | none => rw [h1, h2] at e; cases e
    | some q =>
      rw [h1, h2] at e
      dsimp only at e
      by_cases hz : (SeqAt.shaped p && SeqAt.shaped q) = true
      · rw [if_pos hz] at e
        obtain ⟨a, b⟩ := (Bool.and_eq_true _ _).mp hz
        exact ⟨p, q, rfl, rfl, a, b, (Option.some.inj e).symm⟩
      · rw [if_neg hz] at e; cases e
def oEq (x y : D) : Option T := (eqD x y).map fun b => .d (.bool b)
def oNe (x y : D) : Option T := (eqD x y).map fun b => .d (.bool (!b))
theorem ov_eq (hu : X.A.units + 64 < cLine) : OpV X (compareOp .Eq) oEq := fun F A G H x y a b t Q R h1 h2 e k => by
  obtain ⟨c, e1, e2⟩ := Option.map_eq_some_iff.mp e
  subst e2
  obtain ⟨p, q, e3, e4, s1, s2, rfl⟩ := eqD_py e1
  exact OpR.go (op_eqD hu) ⟨p, q, h1.dp R.gh e3, h2.dp R.gh e4, s1, s2, k.data (.bl _) R⟩
theorem ov_ne (hu : X.A.units + 64 < cLine) : OpV X (compareOp .NotEq) oNe := fun F A G H x y a b t Q R h1 h2 e k => by
  obtain ⟨c, e1, e2⟩ := Option.map_eq_some_iff.mp e
  subst e2
  obtain ⟨p, q, e3, e4, s1, s2, rfl⟩ := eqD_py e1
  exact OpR.go (op_neD hu) ⟨p, q, h1.dp R.gh e3, h2.dp R.gh e4, s1, s2, k.data (.bl _) R⟩
/-! ### in -/
def flatD : D → Bool
  | .none => true
  | .bool _ => true
  | .int _ => true
  | .str _ => true
  | _ => false
/-- == of flat values -/
def eqF : D → D → Bool
  | .none, .none => true
  | .bool a, .bool b => a == b
  | .bool a, .int b => (if a then 1 else 0) == b
  | .int a, .bool b => a == (if b then 1 else 0)
  | .int a, .int b => a == b
  | .str a, .str b => a == b
  | _, _ => false
def inD : D → D → Option Bool
  | x, .list ds => if flatD x && ds.all flatD then some (ds.any fun y => eqF y x) else none
  | x, .tup ds => if flatD x && ds.all flatD then some (ds.any fun y => eqF y x) else none
  | .str i, .str j => some (!(Builtin.Str.occurrences j i 0 j.length 1).isEmpty)
  | x, .dict ks ds => (keyD x).map fun k => (lookK ks ds k).isSome
  | x, .dictT ks ds => (tkeyD x).map fun k => (lookK ks ds k).isSome
  | _, _ => none
def oIn (x y : D) : Option T := (inD x y).map fun b => .d (.bool b)
def oNotIn (x y : D) : Option T := (inD x y).map fun b => .d (.bool (!b))
theorem flat_is {K : PySem.W.Frag} {G : Hp} {v : V} {x : D} (h : Is K G v x) (f : flatD x = true) : flatV v = true := by
  cases h <;> first | rfl | cases f
theorem eqF_is {K : PySem.W.Frag} {G : Hp} {v u : V} {x y : D} (h : Is K G v x) (h2 : Is K G u y) (f : flatD x = true) (g : flatD y = true) : L2.eqV v u = eqF x y := by
  cases h <;> first | (cases f; done) | (cases h2 <;> first | rfl | (cases g; done))
theorem flat_vw {K : PySem.W.Frag} {G H : Hp} {v : V} {x : D} (h : Vw K G H v x) (f : flatD x = true) : Is K G v x := by
  cases x with
  | none => rw [h.none rfl]; exact .non
  | bool => rw [h.bool _ rfl]; exact .bl _
  | int => rw [h.int _ rfl]; exact .int _
  | str => rw [h.str _ rfl]; exact .str _
  | _ => cases f
theorem flatL_is {K : PySem.W.Frag} {G : Hp} : ∀ {ds : List D} {vs : List V}, IsL K G vs ds → ds.all flatD = true → vs.all flatV = true
  | [], _, h, f => by cases h; rfl
  | d :: ds, _, h, f => by
    cases h with
    | cons h t =>
      rw [List.all_cons, Bool.and_eq_true] at f ⊢
      exact ⟨flat_is h f.1, flatL_is t f.2⟩
theorem inL_is {K : PySem.W.Frag} {G : Hp} {v : V} {x : D} (hx : Is K G v x) (fx : flatD x = true) : ∀ {ds : List D} {vs : List V}, IsL K G vs ds → ds.all flatD = true → inV v vs = ds.any fun y => eqF y x
  | [], _, h, f => by cases h; rfl
  | d :: ds, _, h, f => by
    cases h with
    | cons h t =>
      rw [List.all_cons, Bool.and_eq_true] at f
      unfold inV
      rw [List.any_cons, List.any_cons, eqF_is h hx f.1 fx]
      congr 1
      exact inL_is hx fx t f.2
theorem op_inD (hu : X.A.units + 64 < cLine) {a : Addr} {y : V} {o : Option V} {H : Hp} {Q : VK} (g : DGet H a y o) (q : Q (.bl o.isSome) H) : RunO X (compareOp .In) y (.ref a) H Q := fun pins s σ v u I rx ry => by
  cases ry
  exact d_in (by omega) I g rx fun s3 I3 => ⟨.bl o.isSome, H, I3, rfl, q⟩
theorem op_notinD (hu : X.A.units + 64 < cLine) {a : Addr} {y : V} {o : Option V} {H : Hp} {Q : VK} (g : DGet H a y o) (q : Q (.bl (!o.isSome)) H) : RunO X (compareOp .NotIn) y (.ref a) H Q := fun pins s σ v u I rx ry => by
  cases ry
  exact d_notIn (by omega) I g rx fun s3 I3 => ⟨.bl (!o.isSome), H, I3, rfl, q⟩
theorem inD_get {v u : V} {x y : D} {G H : Hp} {b : Bool} (s : Same G H) (h1 : Vw X.K G H v x) (h2 : Vw X.K G H u y) (e : inD x y = some b) (hd : (∃ ks ds, y = .dict ks ds) ∨ ∃ ks ds, y = .dictT ks ds) : ∃ a o, u = .ref a ∧ DGet H a v o ∧ o.isSome = b := by
  rcases hd with ⟨ks, ds, rfl⟩ | ⟨ks, ds, rfl⟩
  · obtain ⟨a, kv, rfl, ha, hk, rr⟩ := h2.dict _ _ rfl
    obtain ⟨k, e1, e2⟩ := Option.map_eq_some_iff.mp (show (keyD x).map (fun k => (lookK ks ds k).isSome) = some b by cases x <;> exact e)
    subst hk
    exact ⟨a, valV kv k, rfl, .inl ⟨kv, k, ha, keyD_vw h1 e1, rfl⟩, by rw [lookK_isSome rr]; exact e2⟩
  · obtain ⟨a, kv, rfl, ha, hk, rr⟩ := h2.dictT _ _ rfl
    obtain ⟨k, e1, e2⟩ := Option.map_eq_some_iff.mp (show (tkeyD x).map (fun k => (lookK ks ds k).isSome) = some b by cases x <;> exact e)
    subst hk
    cases x with
    | tup es =>
      obtain ⟨b', xs, rfl, hb, rb⟩ := h1.tup _ rfl
      rw [keysD_is rb e1] at hb
      exact ⟨a, valV kv k, rfl, .inr ⟨kv, k, b', ha, rfl, hb, rfl⟩, by rw [lookK_isSome rr]; exact e2⟩
    | _ => cases e1
theorem inD_seq {v u : V} {x y : D} {G H : Hp} {b : Bool} (h1 : Vw X.K G H v x) (h2 : Vw X.K G H u y) (e : inD x y = some b) (hd : (∃ ds, y = .list ds) ∨ ∃ ds, y = .tup ds) : ∃ p xs, u = .ref p ∧ (SqL X.K H p xs ∨ SqT X.K H p xs) ∧ flatV v = true ∧ xs.all flatV = true ∧ inV v xs = b := by
  rcases hd with ⟨ds, rfl⟩ | ⟨ds, rfl⟩
  · obtain ⟨p, xs, rfl, hp, r⟩ := h2.list _ rfl
    have e : (if (flatD x && ds.all flatD) = true then some (ds.any fun y => eqF y x) else none) = some b := by cases x <;> exact e
    by_cases hz : (flatD x && ds.all flatD) = true
    · rw [if_pos hz] at e
      obtain ⟨f1, f2⟩ := (Bool.and_eq_true _ _).mp hz
      have i1 := flat_vw h1 f1
      exact ⟨p, xs, rfl, .inl (SqL.of hp), flat_is i1 f1, flatL_is r f2, (inL_is i1 f1 r f2).trans (Option.some.inj e)⟩
    · rw [if_neg hz] at e; cases e
  · obtain ⟨p, xs, rfl, hp, r⟩ := h2.tup _ rfl
    have e : (if (flatD x && ds.all flatD) = true then some (ds.any fun y => eqF y x) else none) = some b := by cases x <;> exact e
    by_cases hz : (flatD x && ds.all flatD) = true
    · rw [if_pos hz] at e
      obtain ⟨f1, f2⟩ := (Bool.and_eq_true _ _).mp hz
      have i1 := flat_vw h1 f1
      exact ⟨p, xs, rfl, .inr (SqT.of hp), flat_is i1 f1, flatL_is r f2, (inL_is i1 f1 r f2).trans (Option.some.inj e)⟩
    · rw [if_neg hz] at e; cases e
theorem ov_in (hu : X.A.units + 64 < cLine) : OpV X (compareOp .In) oIn := fun F A G H x y a b t Q R h1 h2 e k => by
  obtain ⟨c, e1, e2⟩ := Option.map_eq_some_iff.mp e
  subst e2
  have kk := k.data (.bl c) R
  cases b with
  | list ds =>
    obtain ⟨p, xs, rfl, hq, f1, f2, f3⟩ := inD_seq h1 h2 e1 (.inl ⟨_, rfl⟩)
    exact OpR.go op_in_seq ⟨p, xs, rfl, hq, f1, f2, by rw [if_neg Bool.false_ne_true, f3]; exact kk⟩
  | tup ds =>
    obtain ⟨p, xs, rfl, hq, f1, f2, f3⟩ := inD_seq h1 h2 e1 (.inr ⟨_, rfl⟩)
    exact OpR.go op_in_seq ⟨p, xs, rfl, hq, f1, f2, by rw [if_neg Bool.false_ne_true, f3]; exact kk⟩
  | dict ks ds =>
    obtain ⟨p, o, rfl, g, rfl⟩ := inD_get R.gh h1 h2 e1 (.inl ⟨_, _, rfl⟩)
    exact op_inD hu g kk
  | dictT ks ds =>
    obtain ⟨p, o, rfl, g, rfl⟩ := inD_get R.gh h1 h2 e1 (.inr ⟨_, _, rfl⟩)
    exact op_inD hu g kk
  | str j =>
    cases a with
    | str i => cases e1; exact OpR.go op_in_str ⟨i, j, h1.str _ rfl, h2.str _ rfl, kk⟩
    | _ => cases e1
  | _ => cases a <;> cases e1
theorem ov_notin (hu : X.A.units + 64 < cLine) : OpV X (compareOp .NotIn) oNotIn := fun F A G H x y a b t Q R h1 h2 e k => by
  obtain ⟨c, e1, e2⟩ := Option.map_eq_some_iff.mp e
  subst e2
  have kk := k.data (.bl (!c)) R
  cases b with
  | list ds =>
    obtain ⟨p, xs, rfl, hq, f1, f2, f3⟩ := inD_seq h1 h2 e1 (.inl ⟨_, rfl⟩)
    exact OpR.go op_notIn_seq ⟨p, xs, rfl, hq, f1, f2, by rw [if_pos rfl, f3]; exact kk⟩
  | tup ds =>
    obtain ⟨p, xs, rfl, hq, f1, f2, f3⟩ := inD_seq h1 h2 e1 (.inr ⟨_, rfl⟩)
    exact OpR.go op_notIn_seq ⟨p, xs, rfl, hq, f1, f2, by rw [if_pos rfl, f3]; exact kk⟩
  | dict ks ds =>
    obtain ⟨p, o, rfl, g, rfl⟩ := inD_get R.gh h1 h2 e1 (.inl ⟨_, _, rfl⟩)
    exact op_notinD hu g kk
  | dictT ks ds =>
    obtain ⟨p, o, rfl, g, rfl⟩ := inD_get R.gh h1 h2 e1 (.inr ⟨_, _, rfl⟩)
    exact op_notinD hu g kk
  | str j =>
    cases a with
    | str i => cases e1; exact OpR.go op_notin_str ⟨i, j, h1.str _ rfl, h2.str _ rfl, kk⟩
    | _ => cases e1
  | _ => cases a <;> cases e1
end
end Dn

namespace Dn
open PySem PySem.Spec PyProof.Rows L2
/-! ### places: a slot, then attributes (class, name) -/
abbrev Path := List (Str × Str)
def fldL {α : Type} : List Str → List α → Str → Option α
  | n :: ns, t :: ts, f => if n = f then some t else fldL ns ts f
  | _, _, _ => none
def setL {α : Type} : List Str → List α → Str → α → List α
  | n :: ns, t :: ts, f, u => if n = f then u :: ts else t :: setL ns ts f u
  | _, ts, _, _ => ts
def getP : T → Path → Option T
  | t, [] => some t
  | .inst C ns ts, (C', f) :: r => if C = C' then (fldL ns ts f).bind fun u => getP u r else none
  | .d (.inst C ns ds), (C', f) :: r => if C = C' then (fldL ns ds f).bind fun x => getP (.d x) r else none
  | _, _ => none
def setP : T → Path → T → T
  | _, [], u => u
  | .inst C ns ts, (_, f) :: r, u => match fldL ns ts f with
    | some s => .inst C ns (setL ns ts f (setP s r u))
    | none => .inst C ns ts
  | t, _, _ => t
inductive PathV (K : PySem.W.Frag) (H : Hp) : V → Path → V → Prop
  | nil (v : V) : PathV K H v [] v
  | cons {a dx : Addr} {C f : Str} {fs : List (Str × V)} {w u : V} {r : Path} (h : H a = some (.ins (He.ga K C) dx fs)) (hl : fs.lookup f = some w) (t : PathV K H w r u) : PathV K H (.ref a) ((C, f) :: r) u
section
variable {K : PySem.W.Frag} {G H : Hp}
theorem TIsL.at {f : Str} {u : T} : ∀ {fs : List (Str × V)} {ts : List T} {A : List Addr}, TIsL K G H (fs.map (·.2)) ts A → fldL (fs.map (·.1)) ts f = some u → ∃ w B C, fs.lookup f = some w ∧ TIs K G H w u B ∧ A.Perm (B ++ C) ∧
    ∀ G' H' u' B', Same G G' → (∀ a ∈ C, H' a = H a) → TIs K G' H' w u' B' → ∃ A', TIsL K G' H' (fs.map (·.2)) (setL (fs.map (·.1)) ts f u') A' ∧ A'.Perm (B' ++ C)
  | [], ts, A, h, e => by cases e
  | (n, w) :: fs, [], A, h, e => by cases e
  | (n, w) :: fs, t :: ts, A, h, e => by
    cases h with
    | @cons _ _ _ _ A1 A2 h r =>
      have e : (if n = f then some t else fldL (fs.map (·.1)) ts f) = some u := e
      by_cases hn : n = f
      · rw [if_pos hn] at e
        cases e
        subst hn
        refine ⟨w, A1, A2, by rw [List.lookup_cons, beq_self_eq_true], h, List.Perm.refl _, fun G' H' u' B' s k t' => ⟨B' ++ A2, ?_, List.Perm.refl _⟩⟩
        show TIsL K G' H' (w :: fs.map (·.2)) (if n = n then u' :: ts else _) _
        rw [if_pos rfl]
        exact .cons t' (r.up s k)
      · rw [if_neg hn] at e
        obtain ⟨w', B, C, h1, h2, h3, h4⟩ := TIsL.at r e
        have hb : (f == n) = false := beq_eq_false_iff_ne.mpr (Ne.symm hn)
        refine ⟨w', B, A1 ++ C, by rw [List.lookup_cons, hb]; exact h1, h2, (List.Perm.append_left A1 h3).trans (perm3 _ _ _), fun G' H' u' B' s k t' => ?_⟩
        obtain ⟨A', e', p⟩ := h4 G' H' u' B' s (fun a ha => k a (List.mem_append_right _ ha)) t'
        refine ⟨A1 ++ A', ?_, (List.Perm.append_left A1 p).trans (perm3 _ _ _)⟩
        show TIsL K G' H' (w :: fs.map (·.2)) (if n = f then u' :: ts else t :: setL (fs.map (·.1)) ts f u') _
        rw [if_neg hn]
        exact .cons (h.up s fun a ha => k a (List.mem_append_left _ ha)) e'
theorem IsL.fld {f : Str} {u : D} : ∀ {fs : List (Str × V)} {ds : List D}, IsL K G (fs.map (·.2)) ds → fldL (fs.map (·.1)) ds f = some u → ∃ w, fs.lookup f = some w ∧ Is K G w u
  | [], ts, h, e => by cases e
  | (n, w) :: fs, [], h, e => by cases e
  | (n, w) :: fs, t :: ts, h, e => by
    cases h with
    | cons h r =>
      have e : (if n = f then some t else fldL (fs.map (·.1)) ts f) = some u := e
      by_cases hn : n = f
      · rw [if_pos hn] at e
        cases e
        subst hn
        exact ⟨w, by rw [List.lookup_cons, beq_self_eq_true], h⟩
      · rw [if_neg hn] at e
        obtain ⟨w', h1, h2⟩ := IsL.fld r e
        have hb : (f == n) = false := beq_eq_false_iff_ne.mpr (Ne.symm hn)
        exact ⟨w', by rw [List.lookup_cons, hb]; exact h1, h2⟩
theorem TIs.path (s0 : Same G H) : ∀ (p : Path) {v : V} {t u : T} {A : List Addr}, TIs K G H v t A → getP t p = some u → ∃ vu B C, PathV K H v p vu ∧ TIs K G H vu u B ∧ A.Perm (B ++ C) ∧
    (isD u = false → ∀ G' H' u' B', Same G G' → (∀ a ∈ C, H' a = H a) → TIs K G' H' vu u' B' → ∃ A', TIs K G' H' v (setP t p u') A' ∧ A'.Perm (B' ++ C))
  | [], v, t, u, A, h, e => by
    have e : some t = some u := by cases t <;> exact e
    cases e
    exact ⟨v, A, [], .nil v, h, by rw [List.append_nil], fun _ G' H' u' B' s k t' => ⟨B', by cases t <;> exact t', by rw [List.append_nil]⟩⟩
  | (C', f) :: p, v, t, u, A, h, e => by
    cases h with
    | @inst a dx C fs ns ts A0 h hn r =>
      have e3 : (if C = C' then (fldL ns ts f).bind fun u => getP u p else none) = some u := e
      by_cases hc : C = C'
      · rw [if_pos hc] at e3
        subst hc
        obtain ⟨w, e1, e2⟩ := Option.bind_eq_some_iff.mp e3
        subst hn
        obtain ⟨z, B, D0, h1, h2, h3, h4⟩ := TIsL.at r e1
        obtain ⟨vu, B1, C1, g1, g2, g3, g4⟩ := TIs.path s0 p h2 e2
        refine ⟨vu, B1, a :: (C1 ++ D0), .cons h h1 g1, g2, ?_, fun hu G' H' u' B' s k t' => ?_⟩
        · refine (List.Perm.cons a (h3.trans (List.Perm.append_right D0 g3))).trans ?_
          rw [List.append_assoc]
          exact List.perm_middle.symm
        · obtain ⟨A1, t1, p1⟩ := g4 hu G' H' u' B' s (fun b hb => k b (List.mem_cons_of_mem _ (List.mem_append_left _ hb))) t'
          obtain ⟨A2, t2, p2⟩ := h4 G' H' _ A1 s (fun b hb => k b (List.mem_cons_of_mem _ (List.mem_append_right _ hb))) t1
          refine ⟨a :: A2, ?_, ?_⟩
          · show TIs K G' H' (.ref a) (match fldL (fs.map (·.1)) ts f with
              | some s => .inst C (fs.map (·.1)) (setL (fs.map (·.1)) ts f (setP s p u'))
              | none => .inst C (fs.map (·.1)) ts) _
            rw [e1]
            exact .inst ((k a List.mem_cons_self).trans h) rfl t2
          · refine (List.Perm.cons a (p2.trans (List.Perm.append_right D0 p1))).trans ?_
            rw [List.append_assoc]
            exact List.perm_middle.symm
      · rw [if_neg hc] at e3; cases e3
    | d h =>
      cases h with
      | @inst a dx C fs ns ds h hn r =>
        have e3 : (if C = C' then (fldL ns ds f).bind fun x => getP (.d x) p else none) = some u := e
        by_cases hc : C = C'
        · rw [if_pos hc] at e3
          subst hc
          obtain ⟨w, e1, e2⟩ := Option.bind_eq_some_iff.mp e3
          subst hn
          obtain ⟨z, h1, h2⟩ := IsL.fld r e1
          obtain ⟨vu, B1, C1, g1, g2, g3, g4⟩ := TIs.path s0 p (.d h2) e2
          have hud : isD u = true := by
            clear g4 g3 g2 g1 h1 h2 e1 r h
            clear e e3
            revert w
            induction p with
            | nil => intro w e2; cases e2; rfl
            | cons q p ih =>
              intro w e2
              cases w with
              | inst C2 ns2 ds2 =>
                obtain ⟨C3, f3⟩ := q
                have e2 : (if C2 = C3 then (fldL ns2 ds2 f3).bind fun x => getP (.d x) p else none) = some u := e2
                by_cases hc : C2 = C3
                · rw [if_pos hc] at e2
                  obtain ⟨w', e3, e4⟩ := Option.bind_eq_some_iff.mp e2
                  exact ih w' e4
                · rw [if_neg hc] at e2; cases e2
              | _ => cases e2
          exact ⟨vu, B1, C1, .cons (s0 _ _ h) h1 g1, g2, g3, fun hu => by rw [hud] at hu; cases hu⟩
        · rw [if_neg hc] at e3; cases e3
      | _ => cases e
    | _ => cases e
end
/-- the place e, at the slot i: its value, what stands there -/
def SPl (X : Cx) (e : Expr) (i : Nat) (p : Path) : Prop := ∀ σ H Q v vu, σ[i]? = some (some v) → PathV X.K H v p vu → Q vu H → RunE X e σ H Q
def getE (env : Ev) (i : Nat) (p : Path) : Option T := (treeS (getS env i)).bind fun t => getP t p
def setE (env : Ev) (i : Nat) (p : Path) (u : T) : Ev := match treeS (getS env i) with
  | some t => setS env i (reS (getS env i) (setP t p u))
  | none => env
theorem PathV.app {K : PySem.W.Frag} {H : Hp} {v w u : V} {p q : Path} (h : PathV K H v p w) (h2 : PathV K H w q u) : PathV K H v (p ++ q) u := by
  induction h with
  | nil v => exact h2
  | cons h hl t ih => exact .cons h hl (ih h2)
theorem PathV.split {K : PySem.W.Frag} {H : Hp} {u : V} {q : Path} : ∀ {p : Path} {v : V}, PathV K H v (p ++ q) u → ∃ w, PathV K H v p w ∧ PathV K H w q u
  | [], v, h => ⟨v, .nil v, h⟩
  | (C, f) :: p, v, h => by
    cases h with
    | cons h hl t =>
      obtain ⟨w, h1, h2⟩ := PathV.split t
      exact ⟨w, .cons h hl h1, h2⟩
section
variable {X : Cx} {W : WX} {F : Fm} {ps : List V} {σ : L2.St} {G H : Hp} {A : List Addr} {env : Ev} {β : Type} {ok : β → Ev → Prop} {e e2 e3 : Expr} {es : List Expr} {d d2 d3 : DE} {K1 : VK} {x : Str} {pos : Pos} {i : Nat} {p : Path}
theorem SPl.name (hN : X.N[i]? = some x) (hv : visB X.env.scope x = true) (hd : (x == ("__debug__" : Str)) = false) (hcd : (x == ("__classdict__" : Str)) = false) : SPl X (.Name x pos) i [] := fun σ H Q v vu hs h q => by
  cases h
  exact PE.go (pe_var hN (vis_of hv) hd hcd) ⟨v, hs, q⟩
theorem SPl.attr {C f : Str} (cl : Cls X.K (He.ga X.K C)) (na : NoAttr X.K (He.ga X.K C) f) (hb : attributeBase e f X.env (eval e X.env) = eval e X.env) (h : SPl X e i p) : SPl X (.Attribute e f pos) i (p ++ [(C, f)]) := fun σ H Q v vu hs hp q => by
  obtain ⟨w, h1, h2⟩ := hp.split
  cases h2 with
  | cons g hl t =>
    cases t
    exact PE.go (pe_fld pe_run hb) (h σ H _ v _ hs h1 ⟨_, _, _, _, _, rfl, g, cl, na, hl, q⟩)
theorem EvIs.place {K : PySem.W.Frag} (h : EvIs K G H ps σ env A) (s0 : Same G H) {u : T} (e : getE env i p = some u) : ∃ v vu B C, σ[i]? = some (some v) ∧ PathV K H v p vu ∧ TIs K G H vu u B ∧ A.Perm (B ++ C) ∧
    (isD u = false → ∀ G' H' u' B', Same G G' → (∀ a ∈ C, H' a = H a) → TIs K G' H' vu u' B' → ∃ A', EvIs K G' H' ps σ (setE env i p u') A' ∧ A'.Perm (B' ++ C)) := by
  obtain ⟨t, e1, e2⟩ := Option.bind_eq_some_iff.mp (show (treeS (getS env i)).bind _ = some u from e)
  obtain ⟨v, B0, C0, h1, h2, h3, h4⟩ := h.tree e1
  obtain ⟨vu, B1, C1, g1, g2, g3, g4⟩ := TIs.path s0 p h2 e2
  refine ⟨v, vu, B1, C1 ++ C0, h1, g1, g2, ?_, fun hu G' H' u' B' s k t' => ?_⟩
  · refine (h3.trans (List.Perm.append_right C0 g3)).trans ?_
    rw [List.append_assoc]
  · obtain ⟨A1, t1, p1⟩ := g4 hu G' H' u' B' s (fun b hb => k b (List.mem_append_left _ hb)) t'
    obtain ⟨A2, t2, p2⟩ := h4 G' H' _ A1 s (fun b hb => k b (List.mem_append_right _ hb)) t1
    refine ⟨A2, ?_, ?_⟩
    · unfold setE; rw [e1]; exact t2
    · refine (p2.trans (List.Perm.append_right C0 p1)).trans ?_
      rw [List.append_assoc]
/-- the place's value; a tree of our own becomes data there -/
def dPl (i : Nat) (p : Path) : DE := fun env => match getE env i p with
  | some t => .ok (.d t.frz) (if isD t = true then env else setE env i p (.d t.frz))
  | none => .stuck
def pkP (i : Nat) (p : Path) : Ev → Rs D := fun env => match getE env i p with
  | some t => .ok t.frz env
  | none => .stuck
theorem SE.pl (h : SPl X e i p) : SE X W e (dPl i p) := fun F ps σ G H A Q env I R P => by
  unfold dPl at P
  cases q : getE env i p with
  | none => rw [q] at P; exact P.elim
  | some t =>
    rw [q] at P
    obtain ⟨v, vu, B, C, h1, h2, h3, h4, h5⟩ := I.place R.gh q
    refine RunE.fix (h σ H _ v vu h1 h2 fun pins s J => ?_)
    by_cases hD : isD t = true
    · have P : okE X F ps σ G Q (.d t.frz) (if isD t = true then env else setE env i p (.d t.frz)) := P
      rw [if_pos hD] at P
      rw [isD_frz hD] at h3
      cases h3 with
      | d h3 => exact ⟨H, J, P vu G H A [] (Same.refl G) I (.d h3) R⟩
    · have P : okE X F ps σ G Q (.d t.frz) (if isD t = true then env else setE env i p (.d t.frz)) := P
      rw [if_neg hD] at P
      obtain ⟨G2, H2, J2, s2, k2, i2, R2⟩ := h3.freeze (R.perm h4) J
      obtain ⟨A', e', p'⟩ := h5 (by simpa using hD) G2 H2 (.d t.frz) [] s2 k2 (.d i2)
      exact ⟨H2, J2, P vu G2 H2 A' [] s2 e' (.d i2) (R2.perm p'.symm)⟩
theorem SV.pl (h : SPl X e i p) : SV X W e (pkP i p) := fun F ps σ G H A Q env I R P => by
  unfold pkP at P
  cases q : getE env i p with
  | none => rw [q] at P; exact P.elim
  | some t =>
    rw [q] at P
    obtain ⟨v, vu, B, C, h1, h2, h3, h4, h5⟩ := I.place R.gh q
    exact h σ H _ v vu h1 h2 (P vu G H A (Same.refl G) I (h3.vw R.gh) R)
end

/-! ### blocks -/
def dSeq (d1 d2 : DS) : DS := fun env => (d1 env).bind fun w env => match w with
  | .nx => d2 env
  | w => .ok w env
def dSkip : DS := fun env => .ok .nx env
section
variable {X : Cx} {W : WX} {F : Fm} {ps : List V} {σ : L2.St} {G H : Hp} {A : List Addr} {env : Ev} {e e2 e3 tg : Expr} {es : List Expr} {d d2 d3 : DE} {x : Str} {pos p1 p2 : Pos} {i : Nat} {p : Path} {st : Stmt} {rest body els : List Stmt} {s1 s2 : DS} {b1 : Ev → Rs Bool}
theorem SB.nil : SB X W [] dSkip := fun F ps σ G H A D env I R P => PSs.go pss_nil (P σ G H A (Same.refl G) I R)
theorem SB.cons (h1 : SS X W st s1) (h2 : SB X W rest s2) : SB X W (st :: rest) (dSeq s1 s2) := fun F ps σ G H A D env I R P => by
  refine PSs.go (pss_cons ps_run pb_run) (h1 F ps σ G H A _ env I R ?_)
  unfold dSeq at P
  cases q : s1 env with
  | ok w env1 =>
    rw [q] at P
    cases w with
    | nx => exact fun σ' G' H' A' s' I' R' => h2 F ps σ' G' H' A' D env1 I' R' (Rs.post.imp (post_up s' P) (fun _ _ _ h => okS.up s' h) fun _ _ _ _ h => h)
    | rt t => exact P
    | bk => exact P
    | ct => exact P
  | exc c fs env1 => rw [q] at P; exact P
  | stuck => rw [q] at P; exact P
theorem SB.one (h1 : SS X W st s1) : SB X W [st] (dSeq s1 dSkip) := SB.cons h1 SB.nil
/-! ### name = value -/
def locB (sc : Scope) (x : Str) : Bool := match sc.names.lookup x with
  | some .local => true
  | some .cell => true
  | _ => false
theorem loc_of {sc : Scope} {x : Str} (h : locB sc x = true) : Loc sc x := by
  unfold locB at h
  cases q : sc.names.lookup x with
  | none => rw [q] at h; cases h
  | some k =>
    rw [q] at h
    cases k with
    | «local» => exact .inl q
    | cell => exact .inr q
    | _ => cases h
def fnB (X : Cx) (x : Str) : Bool := X.fn x || match X.env.scope.names.lookup x with
  | some .local => true
  | _ => false
theorem fn_ofB {X : Cx} {x : Str} (h : fnB X x = true) : X.fn x = true ∨ X.env.scope.names.lookup x = some .local := by
  unfold fnB at h
  rcases (Bool.or_eq_true _ _).mp h with h | h
  · exact .inl h
  · cases q : X.env.scope.names.lookup x with
    | none => rw [q] at h; cases h
    | some k =>
      rw [q] at h
      cases k with
      | «local» => exact .inr rfl
      | _ => cases h
def putS (i : Nat) (t : T) (env : Ev) : Option Ev := if isPar (getS env i) = true then none else some (setS env i (.loc t))
def nxO (o : Option Ev) : Rs Fw := match o with
  | some env => .ok .nx env
  | none => .stuck
def dSet (i : Nat) (d : DE) : DS := fun env => (d env).bind fun t env => nxO (putS i t env)
theorem putS_run {i : Nat} {t : T} {v : V} {B : List Addr} {env' : Ev} (I : EvIs X.K G H ps σ env A) (R : Rel F G H (B ++ A)) (h : TIs X.K G H v t B) (e : putS i t env = some env') : ∃ A', EvIs X.K G H ps (σ.set i (some v)) env' A' ∧ Rel F G H A' := by
  unfold putS at e
  by_cases hp : isPar (getS env i) = true
  · rw [if_pos hp] at e; cases e
  · rw [if_neg hp] at e
    cases e
    exact I.putR (by simpa using hp) h R
theorem SS.set (hN : X.N.Nodup) (hi : X.N[i]? = some x) (hx : locB X.env.scope x = true) (hf : fnB X x = true) (hs : swapsWith e (some (.Name x p1)) pos.line X.env = pure false) (h : SE X W e d) : SS X W (.Assign [.Name x p1] e pos) (dSet i d) := fun F ps σ G H A D env I R P =>
  PS.go (ps_set hN hi (loc_of hx) pe_run hs (fn_ofB hf)) (h.seq I R P fun t env1 v G1 H1 A1 B s1 I1 i1 R1 P1 => by
    cases q : putS i t env1 with
    | none => rw [q] at P1; exact P1.elim
    | some env2 =>
      rw [q] at P1
      obtain ⟨A2, I2, R2⟩ := putS_run I1 R1 i1 q
      exact P1 _ G1 H1 A2 s1 I2 R2)
/-! ### other targets -/
def SG (X : Cx) (tg : Expr) (g : D → Ev → Option Ev) : Prop := ∀ F ps σ G H A v x env env' Q, EvIs X.K G H ps σ env A → Rel F G H A → Is X.K G v x → g x env = some env' →
  (∀ σ' A', EvIs X.K G H ps σ' env' A' → Rel F G H A' → Q σ' H) → RunG X tg v σ H Q
def SGs (X : Cx) (ts : List Expr) (g : List D → Ev → Option Ev) : Prop := ∀ F ps σ G H A vs xs env env' Q, EvIs X.K G H ps σ env A → Rel F G H A → IsL X.K G vs xs → g xs env = some env' →
  (∀ σ' A', EvIs X.K G H ps σ' env' A' → Rel F G H A' → Q σ' H) → RunGs X ts vs σ H Q
def gNm (i : Nat) : D → Ev → Option Ev := fun x env => putS i (.d x) env
def gNil : List D → Ev → Option Ev := fun xs env => match xs with
  | [] => some env
  | _ => none
def gCons (g : D → Ev → Option Ev) (gs : List D → Ev → Option Ev) : List D → Ev → Option Ev := fun xs env => match xs with
  | x :: xs => (g x env).bind fun env => gs xs env
  | [] => none
def gTup (n : Nat) (gs : List D → Ev → Option Ev) : D → Ev → Option Ev := fun x env => match x with
  | .tup xs => if xs.length = n then gs xs env else none
  | _ => none
theorem SG.name (hN : X.N.Nodup) (hi : X.N[i]? = some x) (hx : locB X.env.scope x = true) (hf : fnB X x = true) : SG X (.Name x pos) (gNm i) := fun F ps σ G H A v z env env' Q I R h e k => by
  obtain ⟨A', I', R'⟩ := putS_run (B := []) I R (.d h) e
  exact PG.go (pg_name hN hi (loc_of hx) (fn_ofB hf)) (k _ A' I' R')
theorem SGs.nil : SGs X [] gNil := fun F ps σ G H A vs xs env env' Q I R h e k => by
  cases h with
  | nil => cases e; exact PGs.go pgs_nil ⟨rfl, k σ A I R⟩
  | cons => cases e
theorem SGs.cons {g : D → Ev → Option Ev} {gs : List D → Ev → Option Ev} (hs : (assignEach (e :: es) X.env).map (·.2) = assign e X.env :: (assignEach es X.env).map (·.2)) (h1 : SG X e g) (h2 : SGs X es gs) : SGs X (e :: es) (gCons g gs) := fun F ps σ G H A vs xs env env' Q I R h e k => by
  cases h with
  | nil => cases e
  | cons h t =>
    obtain ⟨env1, e1, e2⟩ := Option.bind_eq_some_iff.mp e
    exact PGs.go (pgs_cons pg_run pgs_run hs) ⟨_, _, rfl, h1 F ps σ G H A _ _ env env1 _ I R h e1 fun σ1 A1 I1 R1 => h2 F ps σ1 G H A1 _ _ env1 env' Q I1 R1 t e2 k⟩
theorem SG.tup {n k1 : Nat} {gs : List D → Ev → Option Ev} (hc : X.calm = true) (hn : (assignEach es X.env).length = n) (hst : (assignEach es X.env).findIdx? (·.1) = none) (h : SGs X es gs) : SG X (.Tuple es k1 pos) (gTup n gs) := fun F ps σ G H A v x env env' Q I R h1 e k => by
  cases x with
  | tup xs =>
    have e : (if xs.length = n then gs xs env else none) = some env' := e
    by_cases hl : xs.length = n
    · rw [if_pos hl] at e
      obtain ⟨a, vs, rfl, ha, r⟩ := h1.tupE
      exact PG.go (pg_tup hc pgs_run (hn.trans hl.symm) hst) ⟨a, vs, rfl, SqT.of (R.gh _ _ ha), r.length, h F ps σ G H A vs xs env env' Q I R r e k⟩
    · rw [if_neg hl] at e; cases e
  | _ => cases e
def dAsg (g : D → Ev → Option Ev) (d : DE) : DS := fun env => (d env).bindD fun x env => nxO (g x env)
theorem SS.asg {g : D → Ev → Option Ev} (hs : swapsWithSole [tg] e pos.line X.env = pure false) (hw : swappedStores [tg] e X.env = pure none) (h1 : (assignEach [tg] X.env).map (·.2) = [assign tg X.env]) (hg : SG X tg g) (h : SE X W e d) : SS X W (.Assign [tg] e pos) (dAsg g d) := fun F ps σ G H A D env I R P =>
  PS.go (ps_asg pe_run pg_run hs hw h1) (h.seqD I R P fun x env1 v G1 H1 A1 s1 I1 i1 R1 P1 => by
    cases q : g x env1 with
    | none => rw [q] at P1; exact P1.elim
    | some env2 =>
      rw [q] at P1
      exact hg F ps σ G1 H1 A1 v x env1 env2 _ I1 R1 i1 q fun σ' A' I' R' => P1 σ' G1 H1 A' s1 I' R')
/-! ### the rest -/
def dExpr (d : DE) : DS := fun env => (d env).bind fun _ env => .ok .nx env
theorem SS.expr (hs : swapsWith e none pos.line X.env = pure false) (h : SE X W e d) : SS X W (.Expr e pos) (dExpr d) := fun F ps σ G H A D env I R P =>
  PS.go (ps_expr pe_run hs) (h.seq I R P fun t env1 v G1 H1 A1 B s1 I1 i1 R1 P1 => P1 σ G1 H1 A1 s1 I1 R1.right)
theorem SS.pass : SS X W (.Pass pos) dSkip := fun F ps σ G H A D env I R P => PS.go ps_pass (P σ G H A (Same.refl G) I R)
theorem SS.brk : SS X W (.Break pos) (fun env => .ok .bk env) := fun F ps σ G H A D env I R P => PS.go ps_break (P σ G H A (Same.refl G) I R)
theorem SS.ctn : SS X W (.Continue pos) (fun env => .ok .ct env) := fun F ps σ G H A D env I R P => PS.go ps_continue (P σ G H A (Same.refl G) I R)
def dRet (d : DE) : DS := fun env => (d env).bind fun t env => .ok (.rt t) env
theorem SS.ret (h : SE X W e d) : SS X W (.Return (some e) pos) (dRet d) := fun F ps σ G H A D env I R P =>
  PS.go (ps_ret pe_run) (h.seq I R P fun t env1 v G1 H1 A1 B s1 I1 i1 R1 P1 => P1 v σ G1 H1 A1 B s1 I1 i1 R1)
/-- return a name: a tree of our own is handed over -/
def dRetV (i : Nat) : DS := fun env => match getS env i with
  | .loc t => .ok (.rt t) (setS env i (.loc (.d .none)))
  | .par _ => dRet (dVar i) env
  | .none => .stuck
theorem SS.retN (hN : X.N[i]? = some x) (hv : visB X.env.scope x = true) (hd : (x == ("__debug__" : Str)) = false) (hcd : (x == ("__classdict__" : Str)) = false) : SS X W (.Return (some (.Name x p1)) pos) (dRetV i) := fun F ps σ G H A D env I R P => by
  have pl := I.pull i
  unfold Pulled at pl
  unfold dRetV at P
  cases q : getS env i with
  | none => rw [q] at P; exact P.elim
  | par t => rw [q] at P; exact SS.ret (SE.var hN hv hd hcd) F ps σ G H A D env I R P
  | loc t =>
    rw [q] at P pl
    obtain ⟨v, B, C, h1, h2, h3, h4⟩ := pl
    obtain ⟨A', e', p'⟩ := h4 G H .non (.d .none) [] (Same.refl G) (fun _ _ => rfl) (.d .non)
    refine PS.go (ps_ret pe_run) (PE.go (pe_var hN (vis_of hv) hd hcd) ⟨v, h1, P v _ G H A' B (Same.refl G) e' h2 (R.perm (h3.trans (List.Perm.append_left B p'.symm)))⟩)
theorem SS.ret0 : SS X W (.Return none pos) (fun env => .ok (.rt (.d .none)) env) := fun F ps σ G H A D env I R P =>
  PS.go ps_retN (P .non σ G H A [] (Same.refl G) I (.d .non) R)
def dIte (b : Ev → Rs Bool) (s1 s2 : DS) : DS := fun env => (b env).bind fun b env => if b = true then s1 env else s2 env
theorem SS.ite (hc : ST X W e b1) (h1 : SB X W body s1) (h0 : SB X W els s2) : SS X W (.If e body els pos) (dIte b1 s1 s2) := fun F ps σ G H A D env I R P =>
  PS.go (ps_if pt_run pb_run pb_run) (hc.seq I R P fun b env1 G1 H1 A1 s1 I1 R1 P1 => by
    cases b with
    | true => exact h1 F ps σ G1 H1 A1 D env1 I1 R1 (Rs.post.imp P1 (fun _ _ _ h => okS.up s1 h) fun _ _ _ _ h => h)
    | false => exact h0 F ps σ G1 H1 A1 D env1 I1 R1 (Rs.post.imp P1 (fun _ _ _ h => okS.up s1 h) fun _ _ _ _ h => h))
end
end Dn

namespace Dn
open PySem PySem.Spec PyProof.Rows L2
/-! ### what a def promises -/
structure FnG (P : Program) (w : World) (K : PySem.W.Frag) (mg : Str → Option Value) (base : Heap) (CX : CXT) (k : Nat) (f : Addr) (fd : FuncData) (ps : List Str) (sp : Sp) : Prop where
  len : ∀ vs H Q E, sp vs H Q E → vs.length = ps.length
  run : ∀ (A : Around) (outer : List Env) (s : Shared) (H : Hp) (args : Args) (us : List Value) (vs : List V) (Q : VK) (E : XK), Room k A → A.guards = some [] → Env0 P w K mg base A outer s H → BindsTo s fd args (ps.zip us) → Vals vs us → sp vs H Q E →
    codeAny (model P w) A (.call (.ref f) args) (CR CX outer P w H s Q E) s
section
variable {P : Program} {w : World} {K : PySem.W.Frag} {mg : Str → Option Value} {base : Heap} {CX : CXT} {k : Nat} {f : Addr} {fd : FuncData} {N ps : List Str} {sp : Sp} {x name qual : Str} {params : Arguments} {body : List Stmt} {scope : Scope} {dvs : List V} {kws : List (Str × V)}
theorem FnG.ex {α : Type} {sp : α → Sp} (F : ∀ x, FnG P w K mg base CX k f fd ps (sp x)) : FnG P w K mg base CX k f fd ps (fun vs H Q E => ∃ x, sp x vs H Q E) :=
  ⟨fun vs H Q E ⟨x, h⟩ => (F x).len vs H Q E h, fun A outer s H args us vs Q E hr hg e0 hb r ⟨x, h⟩ => (F x).run A outer s H args us vs Q E hr hg e0 hb r h⟩
theorem FnG.imp {sp' : Sp} (F : FnG P w K mg base CX k f fd ps sp) (h : ∀ vs H Q E, sp' vs H Q E → sp vs H Q E) : FnG P w K mg base CX k f fd ps sp' :=
  ⟨fun vs H Q E z => F.len vs H Q E (h vs H Q E z), fun A outer s H args us vs Q E hr hg e0 hb r z => F.run A outer s H args us vs Q E hr hg e0 hb r (h vs H Q E z)⟩
theorem fng_of {dV kV doc pm cdv ct oc : Value} {an od : Option Addr} {osl : Array (Option Value)} (lk : K.lookup f = some ⟨oc, od, .func (PySem.W.fnOf name qual params body scope dV kV doc pm an cdv ct), osl⟩) (hcd : PySem.W.codeIn K cdv qual = true) (S : FnScope N ps scope)
    (len : ∀ vs H Q E, sp vs H Q E → vs.length = ps.length)
    (hbody : ∀ (A : Around) (outer : List Env) (s : Shared) (H : Hp) (vs : List V) (Q : VK) (E : XK), Room k (A.deeper (envOfC qual scope s.heap.objs.size f cdv)) → A.guards = some [] → sp vs H Q E →
      ∃ t, PSs (cxOf CX P w K mg base N qual scope f cdv A outer s H E) body t ∧ t { nx := fun _ H' => Q .non H', rt := Q } (start N vs) H) :
    FnG P w K mg base CX (k + 1) f (PySem.W.fnOf name qual params body scope dV kV doc pm an cdv ct) ps sp where
  len := len
  run A outer s H args us vs Q E hr hg e0 hb r hsp := by
    have up : ∀ b o, base.get? b = some o → s.heap.get? b = some o := fun b o e => (e0.bs b o e).1
    have KX : K.In s.heap := e0.mod.kin.keeps up
    have par : ∀ y ∈ ps.zip us, scope.names.lookup y.1 = some .local ∨ (scope.names.lookup y.1 = some .cell ∧ ((cellsFrom (s.heap.objs.size + 1) scope.names []).lookup y.1).isSome = true) := by
      rintro ⟨n, v⟩ hy
      exact (S.par n (List.of_mem_zip hy).1).imp id fun q => ⟨q, PySem.W.cellsFrom_some _ _ _ (.inl q)⟩
    refine codeAny_call_function hr.depth (KX _ _ lk) rfl S.co S.gen rfl (PySem.W.codeRec_of KX hcd) (hb _ _ _ _ (wpAny_newFunctionEnv_cells S.kind par fun env he s1 x => ?_))
    subst he
    obtain ⟨t, ht, hq⟩ := hbody A outer s H vs Q E (hr.deeper _) hg hsp
    refine ⟨(e0.mod.nolimit.keeps up).keeps x.toInCall.keep, codeAny_func (wpAny_mono (ht.run [] s1 (start N vs) H _ (inv_start S hr.hd e0 (len _ _ _ _ hsp) r x) hq) (fun fl s' hs => ?_) fun e s' hs => hs)⟩
    cases fl with
    | ret u => exact let ⟨v, _, H', J, rv, q⟩ := hs; ⟨v, H', J.os, J.bare, J.base, J.hok, rv, q⟩
    | next => exact let ⟨_, H', J, q⟩ := hs; ⟨V.non, H', J.os, J.bare, J.base, J.hok, rfl, q⟩
    | brk => exact let ⟨_, _, _, q⟩ := hs; q.elim
    | cont => exact let ⟨_, _, _, q⟩ := hs; q.elim
end
/-- the values of the parameters that are handed back -/
def maskd {α : Type} : List Bool → List α → List α
  | true :: ms, v :: vs => v :: maskd ms vs
  | false :: ms, _ :: vs => maskd ms vs
  | _, _ => []
def mOk : List Bool → List T → Prop
  | [], [] => True
  | m :: ms, t :: ts => (m = true ∨ isD t = true) ∧ mOk ms ts
  | _, _ => False
def ev0 : List Bool → List T → Nat → Ev
  | true :: ms, t :: ts, n + 1 => .par t :: ev0 ms ts n
  | false :: ms, t :: ts, n + 1 => .loc t :: ev0 ms ts n
  | _, _, n => List.replicate n .none
def backs : Ev → List T
  | [] => []
  | .par t :: r => t :: backs r
  | _ :: r => backs r
def fin (r : Rs Fw) : FR := match r with
  | .ok (.rt t) env => .ok t (backs env)
  | .ok .nx env => .ok (.d .none) (backs env)
  | .exc c fs env => .exc c fs (backs env)
  | _ => .stuck
/-- a body as a function of its arguments -/
def fnOf (mask : List Bool) (n : Nat) (d : DS) : Fn := fun ts => fin (d (ev0 mask ts n))
def spF (K : PySem.W.Frag) (mask : List Bool) (Fn' : Fn) : Sp := fun vs H Q E => ∃ ts A G, TIsL K G H vs ts A ∧ mOk mask ts ∧ Same G H ∧ A.Nodup ∧ (∀ a ∈ A, G a = none ∧ ∃ o, H a = some o) ∧
  match Fn' ts with
  | .ok t back => ∀ v G' H' A' B, Rel ⟨G, H, fun a => a ∈ A⟩ G' H' (B ++ A') → TIs K G' H' v t B → TIsL K G' H' (maskd mask vs) back A' → Q v H'
  | .exc c fs back => ∀ cls dx G' H' A', Rel ⟨G, H, fun a => a ∈ A⟩ G' H' A' → TIsL K G' H' (maskd mask vs) back A' → ExcIs K G' c fs cls dx → E cls dx H'
  | .stuck => False
section
variable {K : PySem.W.Frag} {G H : Hp}
theorem mOk_len : ∀ {ms : List Bool} {ts : List T}, mOk ms ts → ms.length = ts.length
  | [], [], _ => rfl
  | [], _ :: _, h => h.elim
  | _ :: _, [], h => h.elim
  | _ :: ms, _ :: ts, h => congrArg (· + 1) (mOk_len h.2)
theorem TIsL.length : ∀ {vs : List V} {ts : List T} {A : List Addr}, TIsL K G H vs ts A → vs.length = ts.length
  | _, _, _, .nil => rfl
  | _, _, _, .cons _ t => congrArg (· + 1) t.length
theorem EvIs.nones : ∀ (n : Nat), EvIs K G H [] (List.replicate n Option.none) (List.replicate n .none) []
  | 0 => .nil
  | n + 1 => .none (EvIs.nones n)
theorem EvIs.start : ∀ {ms : List Bool} {vs : List V} {ts : List T} {A : List Addr} {n : Nat}, TIsL K G H vs ts A → mOk ms ts → vs.length ≤ n → EvIs K G H (maskd ms vs) (vs.map some ++ List.replicate (n - vs.length) Option.none) (ev0 ms ts n) A
  | [], _, _, _, n, .nil, _, _ => by
    show EvIs K G H [] ([] ++ List.replicate (n - 0) Option.none) (List.replicate n .none) []
    rw [List.nil_append, Nat.sub_zero]; exact EvIs.nones n
  | _ :: _, _, _, _, _, .nil, h, _ => h.elim
  | [], _, _, _, _, .cons _ _, h, _ => h.elim
  | m :: ms, v :: vs, t :: ts, _, 0, .cons _ _, _, hn => by simp at hn
  | m :: ms, v :: vs, t :: ts, _, n + 1, .cons h r, hm, hn => by
    have e : n + 1 - (v :: vs).length = n - vs.length := by rw [List.length_cons]; omega
    rw [e]
    have ih := EvIs.start (ms := ms) (n := n) r hm.2 (by rw [List.length_cons] at hn; omega)
    cases m with
    | true => exact .par h ih
    | false => exact .loc h ih
theorem EvIs.backs {ps : List V} {σ : L2.St} {env : Ev} {A : List Addr} (h : EvIs K G H ps σ env A) : ∃ A', TIsL K G H ps (backs env) A' ∧ A'.Sublist A := by
  induction h with
  | nil => exact ⟨[], .nil, List.Sublist.refl _⟩
  | none r ih => exact ih
  | loc h r ih =>
    obtain ⟨A', t, s⟩ := ih
    exact ⟨A', t, s.trans (List.sublist_append_right _ _)⟩
  | par h r ih =>
    obtain ⟨A', t, s⟩ := ih
    exact ⟨_, .cons h t, List.Sublist.append_left s _⟩
end
/-! ### a def keeps its promise -/
section
variable {P : Program} {w : World} {K : PySem.W.Frag} {mg : Str → Option Value} {base : Heap} {k : Nat} {f : Addr} {fd : FuncData} {N ps : List Str} {x qual : Str} {params : Arguments} {body : List Stmt} {scope : Scope} {dvs : List V} {kws : List (Str × V)} {mask : List Bool} {d : DS}
/-- what is to be shown of a body: in every entry it does what d says -/
def BodyD (P : Program) (w : World) (K : PySem.W.Frag) (mg : Str → Option Value) (base : Heap) (N : List Str) (qual : Str) (scope : Scope) (body : List Stmt) (f : Addr) (k : Nat) (d : DS) : Prop :=
  ∀ (cdv : Value) (A : Around) (outer : List Env) (s : Shared) (H : Hp) (E : XK), Room k (A.deeper (envOfC qual scope s.heap.objs.size f cdv)) → (A.deeper (envOfC qual scope s.heap.objs.size f cdv)).guards = some [] →
    Takes (cxOf (L2.CX P w) P w K mg base N qual scope f cdv A outer s H E) (fun cls dx _ H' => E cls dx H') → PassesOwn (model P w) (A.deeper (envOfC qual scope s.heap.objs.size f cdv)) (envOfC qual scope s.heap.objs.size f cdv) (cxOf (L2.CX P w) P w K mg base N qual scope f cdv A outer s H E).xe →
    SB (cxOf (L2.CX P w) P w K mg base N qual scope f cdv A outer s H E) (fun cls dx _ H' => E cls dx H') body d
theorem fn_ok (F : FunD K x qual params body scope dvs kws f fd) (S : FnScope N ps scope) (hm : mask.length = ps.length) (hN : ps.length ≤ N.length) (hb : BodyD P w K mg base N qual scope body f k d) : FnG P w K mg base (L2.CX P w) (k + 1) f fd ps (spF K mask (fnOf mask N.length d)) := by
  obtain ⟨oc, od, dV, kV, doc, pm, an, cdv, ct, osl, rfl, lk, hcd, _, _⟩ := F.ex
  refine fng_of lk hcd S (fun vs H Q E h => ?_) fun A outer s H vs Q E hr hg h => ?_
  · obtain ⟨ts, A, G, h1, h2, _⟩ := h
    rw [h1.length, ← mOk_len h2, hm]
  · obtain ⟨ts, A0, G, h1, h2, h3, h4, h5, h6⟩ := h
    have hl : vs.length ≤ N.length := by rw [h1.length, ← mOk_len h2, hm]; exact hN
    refine ⟨_, pb_run, hb cdv A outer s H E hr hg (takes_of rfl rfl rfl rfl) (passes_of rfl) ⟨G, H, fun a => a ∈ A0⟩ (maskd mask vs) _ G H A0 _ (ev0 mask ts N.length) (EvIs.start h1 h2 hl)
      ⟨Same.refl G, h3, fun _ _ _ z => z, fun _ z => z, fun _ _ z => .inl z, fun a ha => ⟨(h5 a ha).1, (h5 a ha).2, .inl ha⟩, h4⟩ ?_⟩
    unfold fnOf at h6
    cases q : d (ev0 mask ts N.length) with
    | stuck => rw [q] at h6; exact h6.elim
    | exc c fs env =>
      rw [q] at h6
      intro cls dx σ' G' H' A' s' I' R' x'
      obtain ⟨A2, t2, sl⟩ := I'.backs
      exact h6 cls dx G' H' A2 (R'.sub (fun a ha => sl.subset ha) (sl.nodup R'.nd)) t2 x'
    | ok fw env =>
      rw [q] at h6
      cases fw with
      | nx =>
        intro σ' G' H' A' s' I' R'
        obtain ⟨A2, t2, sl⟩ := I'.backs
        exact h6 .non G' H' A2 [] (R'.sub (fun a ha => sl.subset ha) (sl.nodup R'.nd)) (.d .non) t2
      | rt t =>
        intro v σ' G' H' A' B s' I' i' R'
        obtain ⟨A2, t2, sl⟩ := I'.backs
        have sl2 : (B ++ A2).Sublist (B ++ A') := List.Sublist.append_left sl _
        exact h6 v G' H' A2 B (R'.sub (fun a ha => sl2.subset ha) (sl2.nodup R'.nd)) i' t2
      | bk => exact h6.elim
      | ct => exact h6.elim
end
/-! ### a call -/
def vD : V → D
  | .non => .none
  | .bl b => .bool b
  | .int i => .int i
  | .str x => .str x
  | v => .val v
theorem vD_is {K : PySem.W.Frag} {G : Hp} (v : V) : Is K G v (vD v) := by
  cases v <;> first | exact .non | exact .bl _ | exact .int _ | exact .str _ | exact .val _
def RunCs (X : Cx) (f : Value) (xs : List V) (σ : L2.St) (H : Hp) (Q : VK) : Prop := ∀ (pins : List (Addr × Obj)) (s : Shared) (us : List Value), Inv X pins σ H s → Vals xs us → wpAny (model X.prog X.w) X.A (call f us) (EP X pins σ Q) X.xe s
/-- where a def stands -/
def FdAt (K : PySem.W.Frag) (f : Addr) (fd : FuncData) : Prop := ∃ oc od osl, K.lookup f = some ⟨oc, od, .func fd, osl⟩
/-- a def at f that may be called with dvs its defaults that fill up -/
structure Callee (P : Program) (w : World) (K : PySem.W.Frag) (mg : Str → Option Value) (base : Heap) (f : Addr) (k : Nat) (ps : List Str) (dvs : List V) (sp : Sp) : Prop where
  ex : ∃ fd ds, FnG P w K mg base (L2.CX P w) k f fd ps sp ∧ Binds K fd ps ds ∧ Vals dvs ds ∧ FdAt K f fd
section
variable {X : Cx} {W : WX} {σ : L2.St} {H : Hp} {f : Addr} {k : Nat} {ps : List Str} {dvs : List V} {sp : Sp} {vs : List V} {Q : VK}
theorem run_cs (D : Callee X.prog X.w X.K X.mg X.base f k ps dvs sp) (hr : Room k X.A) (hg : X.A.guards = some []) (tk : Takes X W) (q : sp (vs ++ dvs) H Q (fun cls dx H' => W cls dx σ H')) : RunCs X (.ref f) vs σ H Q := fun pins s us I r => by
  obtain ⟨fd, dw, F, hb, hd, _⟩ := D.ex
  have r2 := r.append hd
  have hl : (us ++ dw).length = ps.length := r2.length.symm.trans (F.len _ _ _ _ q)
  refine wpAny_call (codeAny_mono (F.run X.A X.stack s H ⟨us, []⟩ (us ++ dw) (vs ++ dvs) Q _ hr hg I.env0 (hb s us I.kIn hl) r2 q) fun r' s' hq => ?_)
  match r', hq with
  | .error e, hq => exact passAt tk σ pins H s e s' I hq
  | .ok (.ret u), hq => exact I.after hq
end
/-- a call of data alone -/
def callP (Fn' : Fn) (n : Nat) (dvs : List V) (xs : List D) (env : Ev) : Rs T := if xs.length + dvs.length = n then (match Fn' ((xs ++ dvs.map vD).map .d) with
  | .ok t _ => .ok t env
  | .exc c fs _ => .exc c fs env
  | .stuck => .stuck) else .stuck
section
variable {X : Cx} {W : WX} {F : Fm} {ps : List V} {σ : L2.St} {G G0 H : Hp} {A : List Addr} {env : Ev} {k n : Nat} {dvs : List V} {vs : List V} {xs : List D} {Q : VK} {Fn' : Fn}
theorem isL_d {K : PySem.W.Frag} : ∀ {vs : List V} {xs : List D}, IsL K G vs xs → TIsL K G H vs (xs.map .d) []
  | _, _, .nil => .nil
  | _, _, .cons h t => TIsL.cons (A := []) (.d h) (isL_d t)
theorem mOk_d : ∀ (xs : List D), mOk (List.replicate xs.length false) (xs.map .d)
  | [] => trivial
  | _ :: xs => ⟨.inr rfl, mOk_d xs⟩
theorem maskd_d {α : Type} : ∀ (n : Nat) (vs : List α), maskd (List.replicate n false) vs = []
  | 0, vs => by cases vs <;> rfl
  | n + 1, [] => rfl
  | n + 1, _ :: vs => maskd_d n vs
theorem isL_vD {K : PySem.W.Frag} : ∀ (dvs : List V), IsL K G dvs (dvs.map vD)
  | [] => .nil
  | v :: dvs => .cons (vD_is v) (isL_vD dvs)
theorem sp_pure (I : EvIs X.K G H ps σ env A) (R : Rel F G H A) (i : IsL X.K G vs xs) (P : (callP Fn' n dvs xs env).post (fun t env' => OkO X F G H A Q t ∧ env' = env) (exP X W F ps G)) : spF X.K (List.replicate n false) Fn' (vs ++ dvs) H Q (fun cls dx H' => W cls dx σ H') := by
  unfold callP at P
  by_cases hl : xs.length + dvs.length = n
  · rw [if_pos hl] at P
    have i2 := i.app (isL_vD (K := X.K) (G := G) dvs)
    have hn : (xs ++ dvs.map vD).length = n := by rw [List.length_append, List.length_map]; exact hl
    have st := R.start (B := []) (fun b hb => by cases hb) .nil
    refine ⟨_, [], G, isL_d i2, hn ▸ mOk_d _, R.gh, .nil, (fun a ha => absurd ha (List.not_mem_nil)), ?_⟩
    cases q : Fn' ((xs ++ dvs.map vD).map .d) with
    | stuck => rw [q] at P; exact P.elim
    | ok t back =>
      rw [q] at P
      intro v G' H' A' B r t' tb
      rw [maskd_d] at tb
      cases tb
      obtain ⟨r2, s2, k2⟩ := Rel.back (B := []) (A := A) R r
      rw [List.append_nil] at r2
      exact P.1 v G' H' B s2 k2 t' r2
    | exc c fs back =>
      rw [q] at P
      intro cls dx G' H' A' r tb x
      rw [maskd_d] at tb
      cases tb
      obtain ⟨r2, s2, k2⟩ := Rel.back (B := []) (A := A) R r
      exact P cls dx σ G' H' A s2 (I.up s2 k2) r2 x
  · rw [if_neg hl] at P; exact P.elim
end
/-- a def of the module -/
structure Def1 (P : Program) (w : World) (K : PySem.W.Frag) (mg : Str → Option Value) (base : Heap) (x : Str) (k : Nat) (ps : List Str) (dvs : List V) (sp : Sp) : Prop where
  m : mg x = some (.ref (He.ga K x))
  kp : PySem.W.keepIn K (.ref (He.ga K x)) = true
  c : Callee P w K mg base (He.ga K x) k ps dvs sp
/-- a method -/
structure DefM (P : Program) (w : World) (K : PySem.W.Frag) (mg : Str → Option Value) (base : Heap) (C m : Str) (k : Nat) (ps : List Str) (dvs : List V) (sp : Sp) : Prop where
  cl : Cls K (He.ga K C)
  mt : Meth K (He.ga K C) m (He.ma K (He.ga K C) m)
  c : Callee P w K mg base (He.ma K (He.ga K C) m) k ps dvs sp
def dCallP (Fn' : Fn) (n : Nat) (dvs : List V) (ds : Ev → Rs (List D)) : DE := fun env => (ds env).bind fun xs env => callP Fn' n dvs xs env
section
variable {X : Cx} {W : WX} {e o : Expr} {es : List Expr} {pos p apos : Pos} {x m C : Str} {k n : Nat} {dvs : List V} {ps : List Str} {Fn' : Fn} {ds : Ev → Rs (List D)} {d : DE}
theorem callP_imp {F : Fm} {qs : List V} {σ : L2.St} {G G0 H : Hp} {A : List Addr} {env : Ev} {xs : List D} {Q : VK} (I : EvIs X.K G H qs σ env A) (R : Rel F G H A) (s : Same G0 G) (P : (callP Fn' n dvs xs env).post (okE X F qs σ G0 Q) (exP X W F qs G)) :
    (callP Fn' n dvs xs env).post (fun t env' => OkO X F G H A Q t ∧ env' = env) (exP X W F qs G) := by
  refine Rs.post.imp P (fun t env' e h => ?_) fun _ _ _ _ h => h
  unfold callP at e
  by_cases hl : xs.length + dvs.length = n
  · rw [if_pos hl] at e
    cases q : Fn' ((xs ++ dvs.map vD).map .d) with
    | stuck => rw [q] at e; cases e
    | exc c fs b => rw [q] at e; cases e
    | ok t' b =>
      rw [q] at e
      cases e
      exact ⟨okO_of I R s h, rfl⟩
  · rw [if_neg hl] at e; cases e
theorem SE.callP (tk : Takes X W) (hr : Room k X.A) (hgd : X.A.guards = some []) (D : Def1 X.prog X.w X.K X.mg X.base x k ps dvs (spF X.K (List.replicate n false) Fn')) (hg : Gl X x) (hdb : (x == ("__debug__" : Str)) = false) (he : starEach (e :: es) X.env = (false, eval e X.env) :: starEach es X.env) (hpl : (backTo pos (starEach es X.env)).any (·.1) = false)
    (ha : SA X W (e :: es) ds) : SE X W (.Call (.Name x p) (e :: es) [] pos) (dCallP Fn' n dvs ds) := fun F qs σ G H A Q env I R P => .of fun pins s J => by
  refine wpAny_Call_Name_kw (ld_glob J hg D.m (PySem.W.callWith_K (h₀ := X.base) J.ok.mod.kin D.kp (thn ((ha.seq (K1 := fun vs H1 => RunCs X (.ref (He.ga X.K x)) vs σ H1 Q) I R P ?_).r pos pins s J) fun us s1 ⟨vs, H1, I1, r, q⟩ => ⟨I1.kIn, q pins s1 us I1 r⟩) he hpl) hdb)
  intro xs env1 vs G1 H1 A1 s1 I1 i1 R1 P1
  exact run_cs D.c hr hgd tk (sp_pure I1 R1 i1 (callP_imp I1 R1 s1 P1))
theorem SE.call0 (tk : Takes X W) (hr : Room k X.A) (hgd : X.A.guards = some []) (D : Def1 X.prog X.w X.K X.mg X.base x k ps dvs (spF X.K (List.replicate n false) Fn')) (hg : Gl X x) (hdb : (x == ("__debug__" : Str)) = false) : SE X W (.Call (.Name x p) [] [] pos) (dCallP Fn' n dvs dNil) := fun F qs σ G H A Q env I R P => .of fun pins s J => by
  refine wpAny_Call_Name_kw (ld_glob J hg D.m (PySem.W.callWith_K0 J.kIn D.kp ?_) hdb)
  exact run_cs (vs := []) D.c hr hgd tk (sp_pure I R .nil (callP_imp I R (Same.refl G) P)) pins s [] J .nil
end
end Dn

namespace Dn
open PySem PySem.Spec PyProof.Rows L2
/-! ### what is walked -/
/-- J gives the items xs -/
structure Walked (K : PySem.W.Frag) (J : It) (G0 : Hp) (xs : List D) : Prop where
  go : ∀ F i G H A, i < xs.length → Rel F G H A → Same G0 G → J.go i H
  yl : ∀ F i x v G H H' A, xs[i]? = some x → Rel F G H A → Same G0 G → J.yld i H v H' → ∃ G', Same G G' ∧ Rel F G' H' A ∧ (∀ a ∈ A, H' a = H a) ∧ Is K G' v x
  st : ∀ F G H A, Rel F G H A → Same G0 G → J.stop xs.length H
def RunIt (X : Cx) (tg : Expr) (v : V) (H : Hp) (R : It → Hp → Prop) : Prop := ∀ (pins : List (Addr × Obj)) (s : Shared) (σ : L2.St) (u : Value), Inv X pins σ H s → RelV v u → wpAny (model X.prog X.w) X.A (pyIter u) (PIE X pins σ tg R) X.xe s
structure RunIter (X : Cx) (tg iter : Expr) (σ : L2.St) (H : Hp) (R : It → Hp → Prop) : Prop where of ::
  r : ∀ (pins : List (Addr × Obj)) (s : Shared), Inv X pins σ H s → wpAny (model X.prog X.w) X.A (eval iter X.env) (fun v s1 => wpAny (model X.prog X.w) X.A (pyIter v) (PIE X pins σ tg R) X.xe s1) X.xe s
theorem pi_run {X : Cx} {tg iter : Expr} : PI X tg iter (RunIter X tg iter) := ⟨fun pins s _ _ _ I h => h.r pins s I⟩
theorem PI.go {X : Cx} {tg iter : Expr} {wi : TI} {σ : L2.St} {H : Hp} {Q : It → Hp → Prop} (h : PI X tg iter wi) (q : wi σ H Q) : RunIter X tg iter σ H Q := ⟨fun pins s I => h.run pins s σ H Q I q⟩
/-- iter's items -/
def SI (X : Cx) (W : WX) (tg iter : Expr) (d : Ev → Rs (List D)) : Prop :=
  ∀ F ps σ G H A Q env, EvIs X.K G H ps σ env A → Rel F G H A → (d env).post (fun xs env' => ∀ J G' H' A', Same G G' → EvIs X.K G' H' ps σ env' A' → Rel F G' H' A' → Walked X.K J G' xs → Q J H') (exP X W F ps G) → RunIter X tg iter σ H Q
theorem Walked.list {K : PySem.W.Frag} {a : Addr} {vs : List V} {xs : List D} {G0 : Hp} (ha : G0 a = some (.lst vs)) (r : IsL K G0 vs xs) : Walked K (Itl K a) G0 xs where
  go := fun F i G H A hi f s => by
    obtain ⟨v, ev, p⟩ := r.at (i := i) (List.getElem?_eq_getElem hi)
    exact ⟨vs, v, SqL.of (f.gh _ _ (s _ _ ha)), ev⟩
  yl := fun F i x v G H H' A hi f s y => by
    obtain ⟨e, y⟩ := y
    subst e
    obtain ⟨d, ed, p⟩ := r.get (y vs (SqL.of (f.gh _ _ (s _ _ ha))))
    rw [hi] at ed
    cases ed
    exact ⟨G, Same.refl G, f, fun _ _ => rfl, p.up s⟩
  st := fun F G H A f s => ⟨vs, SqL.of (f.gh _ _ (s _ _ ha)), by rw [r.length]; exact Nat.le_refl _⟩
theorem Walked.tup {K : PySem.W.Frag} {a : Addr} {vs : List V} {xs : List D} {G0 : Hp} (ha : G0 a = some (.tup vs)) (r : IsL K G0 vs xs) : Walked K (Itt K a) G0 xs where
  go := fun F i G H A hi f s => by
    obtain ⟨v, ev, p⟩ := r.at (i := i) (List.getElem?_eq_getElem hi)
    exact ⟨vs, v, SqT.of (f.gh _ _ (s _ _ ha)), ev⟩
  yl := fun F i x v G H H' A hi f s y => by
    obtain ⟨e, y⟩ := y
    subst e
    obtain ⟨d, ed, p⟩ := r.get (y vs (SqT.of (f.gh _ _ (s _ _ ha))))
    rw [hi] at ed
    cases ed
    exact ⟨G, Same.refl G, f, fun _ _ => rfl, p.up s⟩
  st := fun F G H A f s => ⟨vs, SqT.of (f.gh _ _ (s _ _ ha)), by rw [r.length]; exact Nat.le_refl _⟩
def strItems (z : Str) : List D := z.cps.toList.map fun c => .str ⟨#[c]⟩
theorem Walked.str {K : PySem.W.Frag} {z : Str} {G0 : Hp} : Walked K (Its z) G0 (strItems z) where
  go := fun F i G H A hi f s => by
    have : i < z.cps.size := by simpa [strItems] using hi
    exact this
  yl := fun F i x v G H H' A hi f s y => by
    obtain ⟨e, c, ec, rfl⟩ := y
    subst e
    refine ⟨G, Same.refl G, f, fun _ _ => rfl, ?_⟩
    have : z.cps.toList[i]? = some c := by simpa using ec
    unfold strItems at hi
    rw [List.getElem?_map, this] at hi
    cases hi
    exact .str _
  st := fun F G H A f s => by
    have : (strItems z).length = z.cps.size := by simp [strItems]
    rw [this]; exact Nat.le_refl _
def kD : Key → D
  | .inl i => .int i
  | .inr x => .str x
theorem kD_is {K : PySem.W.Frag} {G : Hp} (k : Key) : Is K G (kV k) (kD k) := by
  cases k with
  | inl i => exact .int i
  | inr x => exact .str x
theorem Walked.keys {K : PySem.W.Frag} {a : Addr} {od : Obj} {kv : List (Key × V)} {G0 : Hp} (ha : G0 a = some (.frz od (.dK kv))) : Walked K (Itk a od kv) G0 ((kv.map (·.1)).map kD) where
  go := fun F i G H A hi f s => ⟨f.gh _ _ (s _ _ ha), by simpa using hi⟩
  yl := fun F i x v G H H' A hi f s y => by
    obtain ⟨e, k, u, ek, rfl⟩ := y
    subst e
    refine ⟨G, Same.refl G, f, fun _ _ => rfl, ?_⟩
    rw [List.getElem?_map, List.getElem?_map, ek] at hi
    cases hi
    exact kD_is k
  st := fun F G H A f s => ⟨f.gh _ _ (s _ _ ha), by simp⟩
theorem Walked.vals {K : PySem.W.Frag} {a : Addr} {od : Obj} {kv : List (Key × V)} {xs : List D} {G0 : Hp} (ha : G0 a = some (.frz od (.dK kv))) (r : IsL K G0 (kv.map (·.2)) xs) : Walked K (Itd a od kv) G0 xs where
  go := fun F i G H A hi f s => ⟨f.gh _ _ (s _ _ ha), by have := r.length; rw [List.length_map] at this; omega⟩
  yl := fun F i x v G H H' A hi f s y => by
    obtain ⟨e, k, ek⟩ := y
    subst e
    refine ⟨G, Same.refl G, f, fun _ _ => rfl, ?_⟩
    obtain ⟨d, ed, p⟩ := r.get (i := i) (v := v) (by rw [List.getElem?_map, ek]; rfl)
    rw [hi] at ed
    cases ed
    exact p.up s
  st := fun F G H A f s => ⟨f.gh _ _ (s _ _ ha), by have := r.length; rw [List.length_map] at this; omega⟩
def zipKD : List Key → List D → List D
  | k :: ks, d :: ds => .tup [kD k, d] :: zipKD ks ds
  | _, _ => []
theorem zipKD_get {K : PySem.W.Frag} {G : Hp} : ∀ {kv : List (Key × V)} {ds : List D} {i : Nat} {k : Key} {v : V} {x : D}, IsL K G (kv.map (·.2)) ds → kv[i]? = some (k, v) → (zipKD (kv.map (·.1)) ds)[i]? = some x → ∃ d, x = .tup [kD k, d] ∧ Is K G v d
  | [], _, i, k, v, x, h, e, e2 => by simp at e
  | p :: kv, ds, i, k, v, x, h, e, e2 => by
    cases h with
    | cons h t =>
      cases i with
      | zero =>
        simp at e
        subst e
        rw [List.map_cons] at e2
        unfold zipKD at e2
        simp at e2
        exact ⟨_, e2.symm, h⟩
      | succ i =>
        rw [List.map_cons] at e2
        unfold zipKD at e2
        exact zipKD_get t (by simpa using e) (by simpa using e2)
theorem zipKD_len : ∀ {ks : List Key} {ds : List D}, ks.length = ds.length → (zipKD ks ds).length = ks.length
  | [], [], _ => rfl
  | [], _ :: _, h => by cases h
  | _ :: _, [], h => by cases h
  | _ :: ks, _ :: ds, h => by
    unfold zipKD
    rw [List.length_cons, List.length_cons, zipKD_len (by simpa using h)]
theorem Walked.items {K : PySem.W.Frag} {a : Addr} {od : Obj} {kv : List (Key × V)} {xs : List D} {G0 : Hp} (ha : G0 a = some (.frz od (.dK kv))) (r : IsL K G0 (kv.map (·.2)) xs) : Walked K (Iti a od kv) G0 (zipKD (kv.map (·.1)) xs) where
  go := fun F i G H A hi f s => ⟨f.gh _ _ (s _ _ ha), by
    have := r.length
    rw [List.length_map] at this
    rw [zipKD_len (by rw [List.length_map]; exact this), List.length_map] at hi; exact hi⟩
  yl := fun F i x v G H H' A hi f s y => by
    obtain ⟨T, k, u, e1, rfl, hT, rfl⟩ := y
    obtain ⟨d, rfl, p⟩ := zipKD_get r e1 hi
    have s2 := Same.new (o := .tup [kV k, u]) f.gh hT
    exact ⟨_, s2, f.new hT, upd_off (f.ne hT), .tup upd_same (.cons (kD_is k) (.cons ((p.up s).up s2) .nil))⟩
  st := fun F G H A f s => ⟨f.gh _ _ (s _ _ ha), by
    have := r.length
    rw [List.length_map] at this
    rw [zipKD_len (by rw [List.length_map]; exact this), List.length_map]; exact Nat.le_refl _⟩
def rngL (lo : Int) : Nat → List D
  | 0 => []
  | n + 1 => .int lo :: rngL (lo + 1) n
theorem rngL_len : ∀ (lo : Int) (n : Nat), (rngL lo n).length = n
  | lo, 0 => rfl
  | lo, n + 1 => by unfold rngL; rw [List.length_cons, rngL_len]
theorem rngL_get : ∀ (lo : Int) (n i : Nat), i < n → (rngL lo n)[i]? = some (.int (lo + i))
  | lo, 0, i, h => by omega
  | lo, n + 1, 0, h => by unfold rngL; simp
  | lo, n + 1, i + 1, h => by
    unfold rngL
    rw [List.getElem?_cons_succ, rngL_get (lo + 1) n i (by omega)]
    congr 2
    omega
theorem Walked.rng {K : PySem.W.Frag} {lo : Int} {n : Nat} {G0 : Hp} : Walked K (Itr lo n) G0 (rngL lo n) where
  go := fun F i G H A hi _ _ => by rw [rngL_len] at hi; exact hi
  yl := fun F i x v G H H' A hi f s y => by
    obtain ⟨e, e2⟩ := y
    subst e e2
    have hl : i < n := by have := (List.getElem?_eq_some_iff.mp hi).1; rwa [rngL_len] at this
    rw [rngL_get lo n i hl] at hi
    cases hi
    exact ⟨G, Same.refl G, f, fun _ _ => rfl, .int _⟩
  st := fun F G H A f s => by rw [rngL_len]; exact Nat.le_refl _
def rngC (lo c : Int) : Nat → List D
  | 0 => []
  | n + 1 => .int lo :: rngC (lo + c) c n
theorem rngC_len : ∀ (lo c : Int) (n : Nat), (rngC lo c n).length = n
  | lo, c, 0 => rfl
  | lo, c, n + 1 => by unfold rngC; rw [List.length_cons, rngC_len]
theorem rngC_get : ∀ (lo c : Int) (n i : Nat), i < n → (rngC lo c n)[i]? = some (.int (lo + i * c))
  | lo, c, 0, i, h => by omega
  | lo, c, n + 1, 0, h => by unfold rngC; simp
  | lo, c, n + 1, i + 1, h => by
    unfold rngC
    rw [List.getElem?_cons_succ, rngC_get (lo + c) c n i (by omega)]
    congr 2
    rw [Int.add_assoc]
    congr 1
    rw [Int.natCast_add, Int.add_mul]
    omega
/-- the items of data -/
def itemsD : D → Option (List D)
  | .list ds => some ds
  | .tup ds => some ds
  | .str z => some (strItems z)
  | .dict ks _ => some (ks.map kD)
  | _ => none
def ofL {α : Type} (o : Option α) (env : Ev) : Rs α := match o with
  | some t => .ok t env
  | none => .stuck
def dIt (d : DE) : Ev → Rs (List D) := fun env => (d env).bindD fun x env => ofL (itemsD x) env
section
variable {X : Cx} {W : WX} {tg e e2 e3 : Expr} {es : List Expr} {d d2 d3 : DE} {pos p : Pos} {H : Hp} {Q : It → Hp → Prop}
theorem it_list {a : Addr} {vs : List V} (h : H a = some (.lst vs)) (q : Q (Itl X.K a) H) : RunIt X tg (.ref a) H Q := fun pins s σ u I r => by
  cases r
  obtain ⟨its, rv, p, hz⟩ := I.list (SqL.of h)
  refine wpAny_pyIter_list p.isList ?_
  refine ⟨s.heap.objs.size, [s.heap.objs.size], _, _, H, rfl, I.kept (t' := s.toks) fun b o e => Heap.get?_push_of_some _ e, turn_list a _, ⟨_, Heap.get?_push_size _ rfl, rfl, rfl⟩, fun b hb => ?_, q⟩
  have e : b = s.heap.objs.size := by simpa using hb
  subst e
  exact I.fpOk (Nat.le_refl _) (I.hok.fresh (Nat.le_refl _))
theorem it_tup {a : Addr} {vs : List V} (h : H a = some (.tup vs)) (q : Q (Itt X.K a) H) : RunIt X tg (.ref a) H Q := fun pins s σ u I r => by
  cases r
  obtain ⟨its, rv, p, hz⟩ := I.tuple (SqT.of h)
  refine wpAny_pyIter_tuple (show s.heap.IsTuple a its.toArray from p) ?_
  refine ⟨s.heap.objs.size, [s.heap.objs.size], _, _, H, rfl, I.kept (t' := s.toks) fun b o e => Heap.get?_push_of_some _ e, turn_tuple a _, ⟨_, Heap.get?_push_size _ rfl, rfl, rfl⟩, fun b hb => ?_, q⟩
  have e : b = s.heap.objs.size := by simpa using hb
  subst e
  exact I.fpOk (Nat.le_refl _) (I.hok.fresh (Nat.le_refl _))
theorem it_str {x : Str} (q : Q (Its x) H) : RunIt X tg (.str x) H Q := fun pins s σ u I r => by
  obtain ⟨t, rfl⟩ := r
  cases ha : x.cps.all (· < 128)
  · exact wpAny_pyIter_wide ha (pi_one (tk := s.toks) I _ (turn_str _ x t "str_iterator" (.inr rfl)) ⟨_, Heap.get?_push_size _ rfl, rfl, rfl⟩ q)
  · exact wpAny_pyIter_ascii ha (pi_one (tk := s.toks) I _ (turn_str _ x t "str_ascii_iterator" (.inl rfl)) ⟨_, Heap.get?_push_size _ rfl, rfl, rfl⟩ q)
theorem it_keys {a : Addr} {od : Obj} {kv : List (Key × V)} (hd : H a = some (.frz od (.dK kv))) (q : Q (Itk a od kv) H) : RunIt X tg (.ref a) H Q := fun pins s σ u I r => by
  cases r
  obtain ⟨hs, hgd, hx, es, ep, vs, hdt, hsz, kv, hm⟩ := I.frzK hd
  refine iter_keys hs hgd hx hdt (pi_one (tk := s.toks) I _ (turn_keys _ hdt) ⟨_, Heap.get?_push_size _ rfl, rfl, ?_⟩ q)
  rw [hsz] <;> rfl
theorem SI.data (h : SE X W e d) : SI X W tg e (dIt d) := fun F ps σ G H A Q env I R P => .of fun pins s J => by
  have := h.seqD (K1 := fun v H1 => RunIt X tg v H1 Q) I R P (fun x env1 v G1 H1 A1 s1 I1 i1 R1 P1 => by
    cases q : itemsD x with
    | none => rw [q] at P1; exact P1.elim
    | some xs =>
      rw [q] at P1
      have P1 : ∀ J G' H' A', Same G G' → EvIs X.K G' H' ps σ env1 A' → Rel F G' H' A' → Walked X.K J G' xs → Q J H' := P1
      cases x with
      | list ds =>
        cases q
        obtain ⟨a, vs, rfl, ha, r⟩ := i1.listE
        exact it_list (R1.gh _ _ ha) (P1 _ G1 H1 A1 s1 I1 R1 (.list ha r))
      | tup ds =>
        cases q
        obtain ⟨a, vs, rfl, ha, r⟩ := i1.tupE
        exact it_tup (R1.gh _ _ ha) (P1 _ G1 H1 A1 s1 I1 R1 (.tup ha r))
      | str z =>
        cases q
        rw [i1.strE]
        exact it_str (P1 _ G1 H1 A1 s1 I1 R1 .str)
      | dict ks ds =>
        cases q
        obtain ⟨a, od, kv, rfl, ha, hk, r⟩ := i1.dictE
        subst hk
        exact it_keys (R1.gh _ _ ha) (P1 _ G1 H1 A1 s1 I1 R1 (.keys ha))
      | _ => cases q)
  exact thn (this.r pins s J) fun u s1 ⟨v, H1, J1, r, q⟩ => q pins s1 σ u J1 r
def rngOk (i : Int) : Bool := decide (-(2 ^ 62) ≤ i ∧ i < 2 ^ 62)
def rng1D : List D → Option (List D)
  | [.int j] => if rngOk j = true then some (rngL 0 j.toNat) else none
  | _ => none
def rng2D : List D → Option (List D)
  | [.int i, .int j] => if (rngOk i && rngOk j) = true then some (rngL i (j - i).toNat) else none
  | _ => none
def rgOk (i j c : Int) : Bool := decide (c ≠ 0) && decide (c.natAbs < 1073741824 ∧ 0 ≤ Builtin.Range.rangeSize i j c) && Builtin.Range.small i j c
def rng3D : List D → Option (List D)
  | [.int i, .int j, .int c] => if rgOk i j c = true then some (rngC i c (Builtin.Range.rangeSize i j c).toNat) else none
  | _ => none
def dRng (f : List D → Option (List D)) (ds : Ev → Rs (List D)) : Ev → Rs (List D) := fun env => (ds env).bind fun xs env => ofL (f xs) env
theorem SI.rng1 {ds : Ev → Rs (List D)} (hg : Gl X "range") (hm : X.mg "range" = none) (hs : starEach [e] X.env = [(false, eval e X.env)]) (h : SA X W [e] ds) : SI X W tg (.Call (.Name "range" p) [e] [] pos) (dRng rng1D ds) := fun F ps σ G H A Q env I R P =>
  PI.go (pi_range1 hg hm pa_run hs) (h.seq I R P fun xs env1 vs G1 H1 A1 s1 I1 i1 R1 P1 => by
    cases q : rng1D xs with
    | none => rw [q] at P1; exact P1.elim
    | some ys =>
      rw [q] at P1
      have P1 : ∀ J G' H' A', Same G G' → EvIs X.K G' H' ps σ env1 A' → Rel F G' H' A' → Walked X.K J G' ys → Q J H' := P1
      unfold rng1D at q
      split at q
      · rename_i j
        by_cases hz : rngOk j = true
        · rw [if_pos hz] at q
          cases q
          cases i1 with
          | cons h1 t =>
            cases t
            have hz := of_decide_eq_true hz
            exact ⟨j, by rw [h1.intE], hz.1, hz.2, P1 _ G1 H1 A1 s1 I1 R1 .rng⟩
        · rw [if_neg hz] at q; cases q
      · cases q)
theorem SI.rng2 {ds : Ev → Rs (List D)} (hg : Gl X "range") (hm : X.mg "range" = none) (hs : starEach [e, e2] X.env = [(false, eval e X.env), (false, eval e2 X.env)]) (hs2 : starEach [e2] X.env = [(false, eval e2 X.env)]) (h : SA X W [e, e2] ds) : SI X W tg (.Call (.Name "range" p) [e, e2] [] pos) (dRng rng2D ds) := fun F ps σ G H A Q env I R P =>
  PI.go (pi_range2 hg hm pa_run hs hs2) (h.seq I R P fun xs env1 vs G1 H1 A1 s1 I1 i1 R1 P1 => by
    cases q : rng2D xs with
    | none => rw [q] at P1; exact P1.elim
    | some ys =>
      rw [q] at P1
      have P1 : ∀ J G' H' A', Same G G' → EvIs X.K G' H' ps σ env1 A' → Rel F G' H' A' → Walked X.K J G' ys → Q J H' := P1
      unfold rng2D at q
      split at q
      · rename_i i j
        by_cases hz : (rngOk i && rngOk j) = true
        · rw [if_pos hz] at q
          cases q
          cases i1 with
          | cons h1 t =>
            cases t with
            | cons h2 t =>
              cases t
              obtain ⟨z1, z2⟩ := (Bool.and_eq_true _ _).mp hz
              have z1 := of_decide_eq_true z1
              have z2 := of_decide_eq_true z2
              exact ⟨i, j, by rw [h1.intE, h2.intE], ⟨z1.1, z1.2, z2.1, z2.2⟩, P1 _ G1 H1 A1 s1 I1 R1 .rng⟩
        · rw [if_neg hz] at q; cases q
      · cases q)
theorem Walked.rngC {K : PySem.W.Frag} {lo c : Int} {n : Nat} {G0 : Hp} : Walked K (Itc lo c n) G0 (Dn.rngC lo c n) where
  go := fun F i G H A hi _ _ => by rw [rngC_len] at hi; exact hi
  yl := fun F i x v G H H' A hi f s y => by
    obtain ⟨e, e2⟩ := y
    subst e e2
    have hl : i < n := by have := (List.getElem?_eq_some_iff.mp hi).1; rwa [rngC_len] at this
    rw [rngC_get lo c n i hl] at hi
    cases hi
    exact ⟨G, Same.refl G, f, fun _ _ => rfl, .int _⟩
  st := fun F G H A f s => by rw [rngC_len]; exact Nat.le_refl _
theorem SI.rng3 {ds : Ev → Rs (List D)} (hg : Gl X "range") (hm : X.mg "range" = none) (hs : starEach [e, e2, e3] X.env = (false, eval e X.env) :: starEach [e2, e3] X.env) (hpl : (backTo pos (starEach [e2, e3] X.env)).any (·.1) = false) (h : SA X W [e, e2, e3] ds) : SI X W tg (.Call (.Name "range" p) [e, e2, e3] [] pos) (dRng rng3D ds) := fun F ps σ G H A Q env I R P =>
  PI.go (pi_range3 hg hm pa_run hs hpl) (h.seq I R P fun xs env1 vs G1 H1 A1 s1 I1 i1 R1 P1 => by
    cases q : rng3D xs with
    | none => rw [q] at P1; exact P1.elim
    | some ys =>
      rw [q] at P1
      have P1 : ∀ J G' H' A', Same G G' → EvIs X.K G' H' ps σ env1 A' → Rel F G' H' A' → Walked X.K J G' ys → Q J H' := P1
      unfold rng3D at q
      split at q
      · rename_i i j c
        by_cases hz : rgOk i j c = true
        · rw [if_pos hz] at q
          cases q
          cases i1 with
          | cons h1 t =>
            cases t with
            | cons h2 t =>
              cases t with
              | cons h3 t =>
                cases t
                obtain ⟨z1, z2⟩ := (Bool.and_eq_true _ _).mp hz
                obtain ⟨z1, z3⟩ := (Bool.and_eq_true _ _).mp z1
                exact ⟨i, j, c, _, by rw [h1.intE, h2.intE, h3.intE], ⟨of_decide_eq_true z1, (of_decide_eq_true z3).1, z2, (Int.toNat_of_nonneg (of_decide_eq_true z3).2).symm⟩, P1 _ G1 H1 A1 s1 I1 R1 .rngC⟩
        · rw [if_neg hz] at q; cases q
      · cases q)
/-- d.items(), d.values() -/
def itmD : D → Option (List D)
  | .dict ks ds => some (zipKD ks ds)
  | _ => none
def valD : D → Option (List D)
  | .dict _ ds => some ds
  | _ => none
def dItD (f : D → Option (List D)) (d : DE) : Ev → Rs (List D) := fun env => (d env).bindD fun x env => ofL (f x) env
theorem SI.items {elts : List Expr} {kk : Nat} {tpos apos cpos : Pos} (hb : attributeBase e "items" X.env (eval e X.env) = eval e X.env) (hl : (apos.endLine == cpos.line) = true) (h : SE X W e d) : SI X W (.Tuple elts kk tpos) (.Call (.Attribute e "items" apos) [] [] cpos) (dItD itmD d) := fun F ps σ G H A Q env I R P =>
  PI.go (pi_items pe_run hb hl) (h.seqD I R P fun x env1 v G1 H1 A1 s1 I1 i1 R1 P1 => by
    cases x with
    | dict ks ds =>
      obtain ⟨a, od, kv, rfl, ha, hk, r⟩ := i1.dictE
      subst hk
      exact ⟨a, od, kv, rfl, R1.gh _ _ ha, P1 _ G1 H1 A1 s1 I1 R1 (.items ha r)⟩
    | _ => exact P1.elim)
theorem SI.values {apos cpos : Pos} (hb : attributeBase e "values" X.env (eval e X.env) = eval e X.env) (hl : (apos.endLine == cpos.line) = true) (h : SE X W e d) : SI X W tg (.Call (.Attribute e "values" apos) [] [] cpos) (dItD valD d) := fun F ps σ G H A Q env I R P =>
  PI.go (pi_values pe_run hb hl) (h.seqD I R P fun x env1 v G1 H1 A1 s1 I1 i1 R1 P1 => by
    cases x with
    | dict ks ds =>
      obtain ⟨a, od, kv, rfl, ha, hk, r⟩ := i1.dictE
      subst hk
      exact ⟨a, od, kv, rfl, R1.gh _ _ ha, P1 _ G1 H1 A1 s1 I1 R1 (.vals ha r)⟩
    | _ => exact P1.elim)
def enumD : Int → List D → List D
  | _, [] => []
  | i, d :: ds => .tup [.int i, d] :: enumD (i + 1) ds
theorem enumD_len : ∀ (i : Int) (ds : List D), (enumD i ds).length = ds.length
  | i, [] => rfl
  | i, d :: ds => by unfold enumD; rw [List.length_cons, List.length_cons, enumD_len]
theorem enumD_get : ∀ (lo : Int) (ds : List D) (i : Nat) (d : D), ds[i]? = some d → (enumD lo ds)[i]? = some (.tup [.int (lo + i), d])
  | lo, [], i, d, h => by simp at h
  | lo, x :: ds, 0, d, h => by simp at h; subst h; unfold enumD; simp
  | lo, x :: ds, i + 1, d, h => by
    unfold enumD
    rw [List.getElem?_cons_succ, enumD_get (lo + 1) ds i d (by simpa using h)]
    congr 4
    omega
theorem Walked.enum {K : PySem.W.Frag} {a : Addr} {vs : List V} {xs : List D} {G0 : Hp} (ha : G0 a = some (.lst vs)) (r : IsL K G0 vs xs) : Walked K (Ite K a) G0 (enumD 0 xs) where
  go := fun F i G H A hi f s => by
    rw [enumD_len] at hi
    obtain ⟨v, ev, p⟩ := r.at (i := i) (List.getElem?_eq_getElem hi)
    exact ⟨vs, v, SqL.of (f.gh _ _ (s _ _ ha)), ev⟩
  yl := fun F i x v G H H' A hi f s y => by
    obtain ⟨T, u, rfl, hT, rfl, y⟩ := y
    obtain ⟨d, ed, p⟩ := r.get (y vs (SqL.of (f.gh _ _ (s _ _ ha))))
    rw [enumD_get 0 xs i d ed] at hi
    cases hi
    have s2 := Same.new (o := .tup [.int (i : Nat), u]) f.gh hT
    refine ⟨_, s2, f.new hT, upd_off (f.ne hT), .tup upd_same (.cons ?_ (.cons ((p.up s).up s2) .nil))⟩
    rw [Int.zero_add]
    exact .int _
  st := fun F G H A f s => ⟨vs, SqL.of (f.gh _ _ (s _ _ ha)), by rw [enumD_len, r.length]; exact Nat.le_refl _⟩
def enmD : List D → Option (List D)
  | [.list ds] => some (enumD 0 ds)
  | _ => none
theorem SI.enum {elts : List Expr} {kk : Nat} {tpos : Pos} {ds : Ev → Rs (List D)} (hg : Gl X "enumerate") (hm : X.mg "enumerate" = none) (hs : starEach [e] X.env = [(false, eval e X.env)]) (h : SA X W [e] ds) : SI X W (.Tuple elts kk tpos) (.Call (.Name "enumerate" p) [e] [] pos) (dRng enmD ds) := fun F ps σ G H A Q env I R P =>
  PI.go (pi_enum hg hm pa_run hs) (h.seq I R P fun xs env1 vs G1 H1 A1 s1 I1 i1 R1 P1 => by
    cases q : enmD xs with
    | none => rw [q] at P1; exact P1.elim
    | some ys =>
      rw [q] at P1
      have P1 : ∀ J G' H' A', Same G G' → EvIs X.K G' H' ps σ env1 A' → Rel F G' H' A' → Walked X.K J G' ys → Q J H' := P1
      unfold enmD at q
      split at q
      · rename_i ds'
        cases q
        cases i1 with
        | cons h1 t =>
          cases t
          obtain ⟨a, ws, rfl, ha, r⟩ := h1.listE
          exact ⟨a, ws, rfl, SqL.of (R1.gh _ _ ha), P1 _ G1 H1 A1 s1 I1 R1 (.enum ha r)⟩
      · cases q)
end
/-! ### for -/
def forL (g : D → Ev → Option Ev) (b : DS) : List D → Ev → Rs Fw
  | [], env => .ok .nx env
  | x :: xs, env => match g x env with
    | none => .stuck
    | some env1 => match b env1 with
      | .ok .nx env2 => forL g b xs env2
      | .ok .ct env2 => forL g b xs env2
      | .ok .bk env2 => .ok .nx env2
      | r => r
def dFor (it : Ev → Rs (List D)) (g : D → Ev → Option Ev) (b : DS) : DS := fun env => (it env).bind fun xs env => forL g b xs env
section
variable {X : Cx} {W : WX} {tg e e2 e3 : Expr} {es : List Expr} {d d2 d3 : DE} {pos p : Pos} {body : List Stmt} {b : DS} {g : D → Ev → Option Ev} {it : Ev → Rs (List D)}
theorem SS.for (po : PassesOwn (model X.prog X.w) X.A X.env X.xe) (hc : X.calm = true) (hs : ∀ x, foldedSetIterable e X.env x = pure x) (hi : SI X W tg e it) (hg : SG X tg g) (hb : SB X W body b) : SS X W (.For tg e body [] pos) (dFor it g b) := fun F ps σ G H A D env I R P => by
  refine PS.go (ps_for po hc pi_run pg_run pb_run hs) ?_
  refine hi F ps σ G H A _ env I R ?_
  unfold dFor at P
  cases q0 : it env with
  | stuck => rw [q0] at P; exact P.elim
  | exc c fs env1 => rw [q0] at P; exact P
  | ok xs env1 =>
    rw [q0] at P
    have P : (forL g b xs env1).post (okS X F ps D G) (exP X W F ps G) := P
    intro J G1 H1 A1 s1 I1 R1 w
    refine ⟨fun i m σ H => m = xs.length - i ∧ i ≤ xs.length ∧ ∃ G2 A2 env2, Same G1 G2 ∧ EvIs X.K G2 H ps σ env2 A2 ∧ Rel F G2 H A2 ∧ (forL g b (xs.drop i) env2).post (okS X F ps D G) (exP X W F ps G), ⟨xs.length, by simp, Nat.zero_le _, G1, A1, env1, Same.refl G1, I1, R1, by simpa using P⟩, ?_⟩
    rintro i m σ2 H2 ⟨rfl, hi2, G2, A2, env2, s2, I2, R2, P2⟩
    by_cases hl : i < xs.length
    · refine .inr ⟨w.go F i G2 H2 A2 hl R2 s2, fun σ' H' => ∃ G3 A3 env3, Same G1 G3 ∧ EvIs X.K G3 H' ps σ' env3 A3 ∧ Rel F G3 H' A3 ∧ (forL g b (xs.drop (i + 1)) env3).post (okS X F ps D G) (exP X W F ps G), fun σ' H' ⟨G3, A3, env3, z⟩ => ⟨xs.length - (i + 1), by omega, rfl, hl, G3, A3, env3, z⟩, fun v H3 y => ?_⟩
      obtain ⟨G3, s3, R3, k3, i3⟩ := w.yl F i _ v G2 H2 H3 A2 (List.getElem?_eq_getElem hl) R2 s2 y
      have e : xs.drop i = xs[i] :: xs.drop (i + 1) := List.drop_eq_getElem_cons hl
      rw [e] at P2
      unfold forL at P2
      cases q1 : g xs[i] env2 with
      | none => rw [q1] at P2; exact P2.elim
      | some env3 =>
        rw [q1] at P2
        dsimp only at P2
        refine hg F ps σ2 G3 H3 A2 v _ env2 env3 _ (I2.up s3 k3) R3 i3 q1 fun σ4 A4 I4 R4 => ?_
        refine hb F ps σ4 G3 H3 A4 _ env3 I4 R4 ?_
        have s13 : Same G1 G3 := s2.trans s3
        cases q2 : b env3 with
        | stuck => rw [q2] at P2; exact P2.elim
        | exc c fs env4 => rw [q2] at P2; exact exP.up (s1.trans s13) P2
        | ok fw env4 =>
          rw [q2] at P2
          cases fw with
          | nx => exact fun σ' G' H' A' s' I' R' => ⟨G', A', env4, s13.trans s', I', R', P2⟩
          | ct => exact fun σ' G' H' A' s' I' R' => ⟨G', A', env4, s13.trans s', I', R', P2⟩
          | bk => exact fun σ' G' H' A' s' I' R' => P2 σ' G' H' A' ((s1.trans s13).trans s') I' R'
          | rt t => exact fun v' σ' G' H' A' B s' I' i' R' => P2 v' σ' G' H' A' B ((s1.trans s13).trans s') I' i' R'
    · have e : i = xs.length := by omega
      subst e
      rw [List.drop_length] at P2
      exact .inl ⟨w.st F G2 H2 A2 R2 s2, P2 σ2 G2 H2 A2 (s1.trans s2) I2 R2⟩
end
/-! ### while -/
def loopN (c : Ev → Rs Bool) (b : DS) : Nat → Ev → Option (Rs Fw)
  | 0, _ => none
  | n + 1, env => match c env with
    | .ok true env1 => match b env1 with
      | .ok .nx env2 => loopN c b n env2
      | .ok .ct env2 => loopN c b n env2
      | .ok .bk env2 => some (.ok .nx env2)
      | r => some r
    | .ok false env1 => some (.ok .nx env1)
    | .exc k fs env1 => some (.exc k fs env1)
    | .stuck => some .stuck
theorem loopN_more {c : Ev → Rs Bool} {b : DS} {r : Rs Fw} : ∀ {n : Nat} {env : Ev}, loopN c b n env = some r → loopN c b (n + 1) env = some r
  | 0, env, h => by cases h
  | n + 1, env, h => by
    unfold loopN at h
    unfold loopN
    cases q : c env with
    | stuck => rw [q] at h; exact h
    | exc k fs env1 => rw [q] at h; exact h
    | ok t env1 =>
      rw [q] at h
      cases t with
      | false => exact h
      | true =>
        dsimp only at h ⊢
        cases q2 : b env1 with
        | stuck => rw [q2] at h; exact h
        | exc k fs env2 => rw [q2] at h; exact h
        | ok w env2 =>
          rw [q2] at h
          cases w with
          | nx => exact loopN_more (n := n) h
          | ct => exact loopN_more (n := n) h
          | bk => exact h
          | rt t => exact h
theorem loopN_le {c : Ev → Rs Bool} {b : DS} {r : Rs Fw} {n : Nat} {env : Ev} (h : loopN c b n env = some r) : ∀ k, loopN c b (n + k) env = some r
  | 0 => h
  | k + 1 => loopN_more (loopN_le h k)
open Classical in
noncomputable def dWhile (c : Ev → Rs Bool) (b : DS) : DS := fun env => if h : ∃ r n, loopN c b n env = some r then h.choose else .stuck
theorem dWhile_eq {c : Ev → Rs Bool} {b : DS} {r : Rs Fw} {n : Nat} {env : Ev} (h : loopN c b n env = some r) : dWhile c b env = r := by
  unfold dWhile
  have ex : ∃ r n, loopN c b n env = some r := ⟨r, n, h⟩
  rw [dif_pos ex]
  obtain ⟨m, hm⟩ := ex.choose_spec
  have h1 := loopN_le h m
  have h2 := loopN_le hm n
  rw [Nat.add_comm] at h2
  rw [h1] at h2
  exact (Option.some.inj h2).symm
theorem dWhile_none {c : Ev → Rs Bool} {b : DS} {env : Ev} (h : ¬ ∃ r n, loopN c b n env = some r) : dWhile c b env = .stuck := by
  unfold dWhile
  rw [dif_neg h]
section
variable {X : Cx} {W : WX} {e : Expr} {pos : Pos} {body : List Stmt} {b : DS} {c : Ev → Rs Bool}
theorem SS.while (po : PassesOwn (model X.prog X.w) X.A X.env X.xe) (hc : ST X W e c) (hb : SB X W body b) : SS X W (.While e body [] pos) (dWhile c b) := fun F ps σ G H A D env I R P => by
  refine PS.go (ps_while po pt_run pb_run) ?_
  by_cases ex : ∃ r n, loopN c b n env = some r
  · obtain ⟨r, n, hr⟩ := ex
    rw [dWhile_eq hr] at P
    refine ⟨fun m σ H => ∃ G2 A2 env2, Same G G2 ∧ EvIs X.K G2 H ps σ env2 A2 ∧ Rel F G2 H A2 ∧ loopN c b m env2 = some r, ⟨n, G, A, env, Same.refl G, I, R, hr⟩, ?_⟩
    rintro m σ1 H1 ⟨G1, A1, env1, s1, I1, R1, h1⟩
    cases m with
    | zero => cases h1
    | succ m =>
      unfold loopN at h1
      refine hc F ps σ1 G1 H1 A1 _ env1 I1 R1 ?_
      cases q : c env1 with
      | stuck => rw [q] at h1; cases h1; exact P
      | exc k fs env2 => rw [q] at h1; cases h1; exact exP.up s1 P
      | ok t env2 =>
        rw [q] at h1
        cases t with
        | false =>
          cases h1
          intro G' H' A' s' I' R'
          rw [if_neg Bool.false_ne_true]
          exact P σ1 G' H' A' (s1.trans s') I' R'
        | true =>
          intro G' H' A' s' I' R'
          rw [if_pos rfl]
          refine ⟨fun σ' H'' => ∃ G2 A2 env3, Same G G2 ∧ EvIs X.K G2 H'' ps σ' env3 A2 ∧ Rel F G2 H'' A2 ∧ loopN c b m env3 = some r, fun σ' H'' z => ⟨m, Nat.lt_succ_self m, z⟩, ?_⟩
          refine hb F ps σ1 G' H' A' _ env2 I' R' ?_
          dsimp only at h1
          cases q2 : b env2 with
          | stuck => rw [q2] at h1; cases h1; exact P
          | exc k fs env3 => rw [q2] at h1; cases h1; exact exP.up (s1.trans s') P
          | ok w env3 =>
            rw [q2] at h1
            cases w with
            | nx => exact fun σ' G2 H2 A2 s2 I2 R2 => ⟨G2, A2, env3, (s1.trans s').trans s2, I2, R2, h1⟩
            | ct => exact fun σ' G2 H2 A2 s2 I2 R2 => ⟨G2, A2, env3, (s1.trans s').trans s2, I2, R2, h1⟩
            | bk => cases h1; exact fun σ' G2 H2 A2 s2 I2 R2 => P σ' G2 H2 A2 ((s1.trans s').trans s2) I2 R2
            | rt t => cases h1; exact fun v' σ' G2 H2 A2 B s2 I2 i2 R2 => P v' σ' G2 H2 A2 B ((s1.trans s').trans s2) I2 i2 R2
  · rw [dWhile_none ex] at P; exact P.elim
end
end Dn

/-! numbers: the greatest common divisor, ratios, their sizes -/
namespace Mq
open PySem
theorem gcd_step (i j : Int) : Int.gcd j (i.fmod j) = Int.gcd i j := by
  rw [Int.fmod_def]
  rw [Int.gcd_comm i j, Int.sub_eq_add_neg, ← Int.mul_neg]
  exact Int.gcd_add_mul_left_right ..
theorem fmod_abs (i : Int) {j : Int} (h : j ≠ 0) : (i.fmod j).natAbs < j.natAbs := by
  rcases Int.lt_or_gt_of_ne h with h1 | h1
  · have h2 := Int.neg_fmod_neg i j
    have h3 : (-i).fmod (-j) < -j := Int.fmod_lt_of_pos _ (by omega)
    have h4 : 0 ≤ (-i).fmod (-j) := Int.fmod_nonneg_of_pos _ (by omega)
    omega
  · have h3 := Int.fmod_lt_of_pos i h1
    have h4 := Int.fmod_nonneg_of_pos i h1
    omega
/-- a ratio's two parts, from any two numbers -/
theorem ratio_parts (n d : Int) (hd : d ≠ 0) (s : Int) (hs : s = if d > 0 then 1 else -1) :
    n.fdiv ((Int.gcd n d : Int) * s) = (Rat.divInt n d).num ∧ d.fdiv ((Int.gcd n d : Int) * s) = (Rat.divInt n d).den := by
  have hg : (Int.gcd n d : Int) ≠ 0 := by
    intro z
    have : Int.gcd n d = 0 := by omega
    rw [Int.gcd_eq_zero_iff] at this
    exact hd this.2
  have hg0 : 0 < (Int.gcd n d : Int) := by omega
  obtain ⟨a, ha⟩ := Int.gcd_dvd_left (a := n) (b := d)
  obtain ⟨b, hb⟩ := Int.gcd_dvd_right (a := n) (b := d)
  rw [Rat.num_divInt, Rat.den_divInt, if_neg hd, Int.gcd_comm d n]
  generalize hgg : (Int.gcd n d) = g at *
  by_cases h : d > 0
  · rw [if_pos h] at hs
    subst hs
    have hsg : d.sign = 1 := Int.sign_eq_one_of_pos h
    rw [hsg, Int.mul_one, Int.one_mul]
    refine ⟨?_, ?_⟩
    · rw [Int.fdiv_eq_ediv_of_nonneg _ (by omega)]
    · rw [Int.fdiv_eq_ediv_of_nonneg _ (by omega), Int.natCast_ediv]
      have : ((d.natAbs : Nat) : Int) = d := by omega
      rw [this]
  · rw [if_neg h] at hs
    subst hs
    have hsg : d.sign = -1 := Int.sign_eq_neg_one_of_neg (by omega)
    rw [hsg]
    have e1 : ∀ x : Int, x.fdiv ((g : Int) * -1) = (-x) / (g : Int) := fun x => by
      have := Int.neg_fdiv_neg (-x) (g : Int)
      rw [Int.neg_neg] at this
      have e2 : (g : Int) * -1 = -(g : Int) := by omega
      rw [e2, this, Int.fdiv_eq_ediv_of_nonneg _ (by omega)]
    rw [e1, e1]
    refine ⟨by rw [Int.neg_one_mul], ?_⟩
    rw [Int.natCast_ediv]
    have : ((d.natAbs : Nat) : Int) = -d := by omega
    rw [this]
/-! sizes -/
def Sz (k : Nat) (q : Rat) : Prop := q.num.natAbs < 2 ^ k ∧ q.den < 2 ^ k
theorem Sz.up {a b : Nat} {q : Rat} (h : Sz a q) (l : a ≤ b) : Sz b q :=
  ⟨Nat.lt_of_lt_of_le h.1 (Nat.pow_le_pow_right (by decide) l), Nat.lt_of_lt_of_le h.2 (Nat.pow_le_pow_right (by decide) l)⟩
theorem mul_lt {a b x y : Nat} (hx : x < 2 ^ a) (hy : y < 2 ^ b) : x * y < 2 ^ (a + b) := by
  rw [Nat.pow_add]; exact Nat.mul_lt_mul'' hx hy
theorem mkRat_le (n : Int) (d : Nat) (hd : d ≠ 0) : (mkRat n d).num.natAbs ≤ n.natAbs ∧ (mkRat n d).den ≤ d := by
  rw [Rat.num_mkRat, Rat.den_mkRat, if_neg hd, if_neg hd]
  refine ⟨?_, Nat.div_le_self _ _⟩
  exact Int.natAbs_ediv_le_natAbs _ _
theorem Sz.mk {k : Nat} {n : Int} {d : Nat} (hd : d ≠ 0) (h1 : n.natAbs < 2 ^ k) (h2 : d < 2 ^ k) : Sz k (mkRat n d) :=
  ⟨Nat.lt_of_le_of_lt (mkRat_le n d hd).1 h1, Nat.lt_of_le_of_lt (mkRat_le n d hd).2 h2⟩
theorem two_mul_lt {a x y : Nat} (hx : x < 2 ^ a) (hy : y < 2 ^ a) : x + y < 2 ^ (a + 1) := by
  rw [Nat.pow_succ]; omega
theorem Sz.add {a b : Nat} {p q : Rat} (hp : Sz a p) (hq : Sz b q) : Sz (a + b + 1) (p + q) := by
  rw [Rat.add_def']
  have hd : p.den * q.den ≠ 0 := Nat.mul_ne_zero p.den_nz q.den_nz
  refine Sz.mk hd ?_ (Nat.lt_of_lt_of_le (mul_lt hp.2 hq.2) (Nat.pow_le_pow_right (by decide) (by omega)))
  have h1 : (p.num * q.den).natAbs < 2 ^ (a + b) := by rw [Int.natAbs_mul]; exact mul_lt hp.1 hq.2
  have h2 : (q.num * p.den).natAbs < 2 ^ (a + b) := by rw [Int.natAbs_mul, Nat.mul_comm]; exact mul_lt hp.2 hq.1
  exact Nat.lt_of_le_of_lt (Int.natAbs_add_le _ _) (two_mul_lt h1 h2)
theorem Sz.neg {a : Nat} {p : Rat} (hp : Sz a p) : Sz a (-p) := ⟨by rw [Rat.neg_num, Int.natAbs_neg]; exact hp.1, hp.2⟩
theorem Sz.sub {a b : Nat} {p q : Rat} (hp : Sz a p) (hq : Sz b q) : Sz (a + b + 1) (p - q) := by
  rw [Rat.sub_eq_add_neg]; exact hp.add hq.neg
theorem Sz.mul {a b : Nat} {p q : Rat} (hp : Sz a p) (hq : Sz b q) : Sz (a + b) (p * q) := by
  rw [Rat.mul_def']
  have hd : p.den * q.den ≠ 0 := Nat.mul_ne_zero p.den_nz q.den_nz
  exact Sz.mk hd (by rw [Int.natAbs_mul]; exact mul_lt hp.1 hq.1) (mul_lt hp.2 hq.2)
theorem Sz.inv {a : Nat} {p : Rat} (hp : Sz a p) : Sz a p⁻¹ := by
  refine ⟨?_, ?_⟩
  · rw [Rat.num_inv, Int.natAbs_mul]
    have h1 : p.num.sign.natAbs ≤ 1 := by
      rcases Int.lt_trichotomy p.num 0 with h | h | h
      · rw [Int.sign_eq_neg_one_of_neg h]; decide
      · rw [h]; decide
      · rw [Int.sign_eq_one_of_pos h]; decide
    have h2 : ((p.den : Int)).natAbs = p.den := by omega
    rw [h2]
    exact Nat.lt_of_le_of_lt (Nat.le_trans (Nat.mul_le_mul_right _ h1) (by omega)) hp.2
  · rw [Rat.den_inv]
    split
    · have := hp.2; have := p.den_pos; omega
    · exact hp.1
theorem Sz.div {a b : Nat} {p q : Rat} (hp : Sz a p) (hq : Sz b q) : Sz (a + b) (p / q) := by
  rw [Rat.div_def]; exact hp.mul hq.inv
theorem Sz.int {a : Nat} {n : Int} (ha : 0 < a) (h : n.natAbs < 2 ^ a) : Sz a (n : Rat) := by
  refine ⟨h, ?_⟩
  show 1 < 2 ^ a
  cases a with
  | zero => omega
  | succ a => have : 0 < 2 ^ a := Nat.pow_pos (by decide); rw [Nat.pow_succ]; omega
theorem floor_lt {a : Nat} {q : Rat} (h : Sz a q) : q.floor.natAbs < 2 ^ a := by
  rw [Rat.floor_def]
  exact Nat.lt_of_le_of_lt (Int.natAbs_ediv_le_natAbs _ _) h.1
theorem Sz.pos {a : Nat} {q : Rat} (h : Sz a q) : 0 < a := by
  cases a with
  | zero => have h2 := h.2; have := q.den_pos; simp at h2; omega
  | succ a => omega
theorem Sz.floor {a : Nat} {q : Rat} (h : Sz a q) : Sz a ((q.floor : Int) : Rat) := Sz.int h.pos (floor_lt h)
/-! the sums of the program -/
theorem add_parts (p q : Rat) : Rat.divInt (p.num * q.den + q.num * p.den) ((p.den : Int) * q.den) = p + q := by
  rw [Rat.add_def', ← Rat.divInt_ofNat, Int.natCast_mul]
theorem sub_parts (p q : Rat) : Rat.divInt (p.num * q.den - q.num * p.den) ((p.den : Int) * q.den) = p - q := by
  rw [Rat.sub_def', ← Rat.divInt_ofNat, Int.natCast_mul]
theorem mul_parts (p q : Rat) : Rat.divInt (p.num * q.num) ((p.den : Int) * q.den) = p * q := by
  rw [Rat.mul_def', ← Rat.divInt_ofNat, Int.natCast_mul]
theorem div_parts (p q : Rat) : Rat.divInt (p.num * q.den) ((p.den : Int) * q.num) = p / q := by
  rw [Rat.div_def, Rat.inv_def]
  conv => rhs; lhs; rw [← Rat.num_divInt_den p]
  rw [Rat.divInt_mul_divInt]
def cmpQ (p q : Rat) : Int := if p < q then -1 else if q < p then 1 else 0
theorem cmp_parts (p q : Rat) : (if decide ((0 : Int) < (p - q).num) = true then (1 : Int) else 0) - (if decide ((p - q).num < 0) = true then (1 : Int) else 0) = cmpQ p q := by
  have h1 : (p - q).num < 0 ↔ p < q := by
    rw [← Int.not_le, Rat.num_nonneg, ← Rat.le_iff_sub_nonneg, Rat.not_le]
  have h2 : 0 < (p - q).num ↔ q < p := by
    have e : (q - p).num = -(p - q).num := by rw [← Rat.neg_sub, Rat.neg_num]
    have h3 : (q - p).num < 0 ↔ q < p := by
      rw [← Int.not_le, Rat.num_nonneg, ← Rat.le_iff_sub_nonneg, Rat.not_le]
    rw [← h3, e]; omega
  unfold cmpQ
  simp only [decide_eq_true_eq, h1, h2]
  by_cases a : p < q
  · have b : ¬ q < p := Rat.not_lt.mpr (Rat.le_of_lt a)
    rw [if_pos a, if_neg b, if_pos a]; rfl
  · rw [if_neg a, if_neg a]
    by_cases b : q < p
    · rw [if_pos b]; rfl
    · rw [if_neg b]; rfl
/-- the rest by a modulus -/
def rem (p q : Rat) : Rat := p - q * ((p / q).floor : Int)
/-! numbers in order -/
/-- a number times a common multiple of the denominators -/
def wv (c : Nat) (q : Rat) : Int := q.num * ((c : Int) / (q.den : Int))
theorem wv_rat {c : Nat} {q : Rat} (hc : c ≠ 0) (h : q.den ∣ c) : Rat.divInt (wv c q) c = q := by
  obtain ⟨m, rfl⟩ := h
  have hm : m ≠ 0 := by intro z; subst z; simp at hc
  have e : ((q.den * m : Nat) : Int) / (q.den : Int) = m := by
    rw [Int.natCast_mul]; exact Int.mul_ediv_cancel_left _ (by have := q.den_pos; omega)
  unfold wv
  rw [e, Int.natCast_mul, Rat.divInt_mul_right (by omega)]
  exact Rat.num_divInt_den q
theorem wv_eq {c : Nat} {q : Rat} (hc : c ≠ 0) (h : q.den ∣ c) : ((wv c q : Int) : Rat) = q * (c : Rat) := by
  have hc2 : ((c : Int) : Rat) ≠ 0 := by
    intro z; exact hc (by exact_mod_cast z)
  have e := wv_rat hc h
  rw [Rat.divInt_eq_div] at e
  conv => rhs; rw [← e]
  rw [Rat.intCast_natCast] at *
  exact (Rat.div_mul_cancel (by exact_mod_cast hc)).symm
theorem wv_lt {c : Nat} {p q : Rat} (hc : c ≠ 0) (hp : p.den ∣ c) (hq : q.den ∣ c) (h : p < q) : wv c p < wv c q := by
  have h1 : ((wv c p : Int) : Rat) < ((wv c q : Int) : Rat) := by
    rw [wv_eq hc hp, wv_eq hc hq]
    have : (0 : Rat) < (c : Rat) := by
      have : 0 < c := by omega
      exact_mod_cast this
    exact Rat.mul_lt_mul_of_pos_right h this
  exact_mod_cast h1
/-- the least common multiple of the denominators -/
def cmn : List Rat → Nat → Nat
  | [], c => c
  | q :: qs, c => cmn qs (Nat.lcm c q.den)
theorem cmn_snoc (qs : List Rat) (q : Rat) : ∀ c, cmn (qs ++ [q]) c = Nat.lcm (cmn qs c) q.den := by
  induction qs with
  | nil => intro c; rfl
  | cons p qs ih => intro c; exact ih _
theorem cmn_pos (qs : List Rat) : ∀ c, c ≠ 0 → cmn qs c ≠ 0 := by
  induction qs with
  | nil => intro c h; exact h
  | cons p qs ih => intro c h; exact ih _ (Nat.lcm_ne_zero h (by have := p.den_pos; omega))
theorem cmn_dvd0 (qs : List Rat) : ∀ c, c ∣ cmn qs c := by
  induction qs with
  | nil => intro c; exact Nat.dvd_refl _
  | cons p qs ih => intro c; exact Nat.dvd_trans (Nat.dvd_lcm_left _ _) (ih _)
theorem cmn_dvd (qs : List Rat) : ∀ c q, q ∈ qs → q.den ∣ cmn qs c := by
  induction qs with
  | nil => intro c q h; cases h
  | cons p qs ih =>
    intro c q h
    rcases List.mem_cons.mp h with e | e
    · subst e; exact Nat.dvd_trans (Nat.dvd_lcm_right _ _) (cmn_dvd0 _ _)
    · exact ih _ _ e
theorem cmn_lt {k : Nat} (qs : List Rat) : ∀ c a, c < 2 ^ a → (∀ q ∈ qs, Sz k q) → cmn qs c < 2 ^ (a + k * qs.length) := by
  induction qs with
  | nil => intro c a h _; exact h
  | cons p qs ih =>
    intro c a h hs
    have h1 : Nat.lcm c p.den < 2 ^ (a + k) := by
      by_cases z : c = 0
      · subst z; rw [Nat.lcm_zero_left]; exact Nat.two_pow_pos _
      · exact Nat.lt_of_le_of_lt (Nat.le_of_dvd (Nat.mul_pos (by omega) p.den_pos) (Nat.lcm_dvd_mul _ _)) (mul_lt h (hs p List.mem_cons_self).2)
    have h2 := ih _ _ h1 fun q hq => hs q (List.mem_cons_of_mem _ hq)
    rw [List.length_cons, Nat.mul_succ]
    have e : a + k + k * qs.length = a + (k * qs.length + k) := by omega
    rw [← e]; exact h2
theorem lcm_step (c d : Nat) : ((c : Int) * d) / (Int.gcd c d : Int) = (Nat.lcm c d : Nat) := by
  rw [← Int.natCast_mul]
  show ((c * d : Nat) : Int) / ((Nat.gcd c d : Nat) : Int) = _
  rw [← Int.natCast_ediv]; rfl
theorem rlt_trans {p q r : Rat} (h1 : p < q) (h2 : q < r) : p < r := by
  rw [← Rat.not_le] at h2 ⊢
  exact fun h => h2 (Rat.le_trans h (Rat.le_of_lt h1))
/-- the members in order, each once -/
theorem rsort (qs : List Rat) : ∃ rs : List Rat, rs.Pairwise (· < ·) ∧ (∀ q, q ∈ rs ↔ q ∈ qs) ∧ rs.length ≤ qs.length := by
  induction qs with
  | nil => exact ⟨[], .nil, fun q => Iff.rfl, Nat.le_refl _⟩
  | cons p qs ih =>
    obtain ⟨rs, h1, h2, h3⟩ := ih
    have key : ∀ rs : List Rat, rs.Pairwise (· < ·) → ∃ ss : List Rat, ss.Pairwise (· < ·) ∧ (∀ q, q ∈ ss ↔ q = p ∨ q ∈ rs) ∧ ss.length ≤ rs.length + 1 := by
      intro rs
      induction rs with
      | nil => intro _; exact ⟨[p], List.pairwise_singleton _ _, fun q => by simp, Nat.le_refl _⟩
      | cons r rs ih =>
        intro h
        obtain ⟨a, b⟩ := List.pairwise_cons.mp h
        by_cases h1 : p < r
        · refine ⟨p :: r :: rs, List.pairwise_cons.mpr ⟨fun x hx => ?_, h⟩, fun q => List.mem_cons, Nat.le_refl _⟩
          rcases List.mem_cons.mp hx with e | e
          · rw [e]; exact h1
          · exact rlt_trans h1 (a x e)
        · by_cases h2 : p = r
          · refine ⟨r :: rs, h, fun q => ?_, by simp⟩
            rw [h2, List.mem_cons]
            exact ⟨fun z => .inr z, fun z => z.elim .inl id⟩
          · have h3 : r < p := by
              rcases Rat.le_iff_lt_or_eq.mp (Rat.not_lt.mp h1) with z | z
              · exact z
              · exact absurd z.symm h2
            obtain ⟨ss, s1, s2, s3⟩ := ih b
            refine ⟨r :: ss, List.pairwise_cons.mpr ⟨fun x hx => ?_, s1⟩, fun q => ?_, by simp only [List.length_cons]; omega⟩
            · rcases (s2 x).mp hx with e | e
              · rw [e]; exact h3
              · exact a x e
            · rw [List.mem_cons, s2, List.mem_cons]
              constructor
              · rintro (z | z | z)
                · exact .inr (.inl z)
                · exact .inl z
                · exact .inr (.inr z)
              · rintro (z | z | z)
                · exact .inr (.inl z)
                · exact .inl z
                · exact .inr (.inr z)
    obtain ⟨ss, s1, s2, s3⟩ := key rs h1
    refine ⟨ss, s1, fun q => ?_, by rw [List.length_cons]; omega⟩
    rw [s2, h2, List.mem_cons]
end Mq

namespace Mq
open PySem PySem.Spec PyProof.Rows
/-! ### texts in order -/
theorem lc_irr : ∀ a : List Nat, ltCps a a = false
  | [] => rfl
  | a :: r => by simp [ltCps, lc_irr r]
theorem lc_asym : ∀ a b : List Nat, ltCps a b = true → ltCps b a = false
  | [], [], h => by simp [ltCps] at h
  | [], _ :: _, _ => rfl
  | _ :: _, [], h => by simp [ltCps] at h
  | a :: r, b :: t, h => by
    simp only [ltCps, Bool.or_eq_true, Bool.and_eq_true, decide_eq_true_eq, beq_iff_eq] at h
    simp only [ltCps, Bool.or_eq_false_iff, Bool.and_eq_false_iff, decide_eq_false_iff_not, beq_eq_false_iff_ne]
    rcases h with h | ⟨rfl, h⟩
    · exact ⟨by omega, .inl (by omega)⟩
    · exact ⟨by omega, .inr (lc_asym r t h)⟩
theorem lc_anti : ∀ a b : List Nat, ltCps a b = false → ltCps b a = false → a = b
  | [], [], _, _ => rfl
  | [], _ :: _, h, _ => by simp [ltCps] at h
  | _ :: _, [], _, h => by simp [ltCps] at h
  | a :: r, b :: t, h1, h2 => by
    simp only [ltCps, Bool.or_eq_false_iff, Bool.and_eq_false_iff, decide_eq_false_iff_not, beq_eq_false_iff_ne] at h1 h2
    have e : a = b := by omega
    subst e
    rw [lc_anti r t (h1.2.resolve_left fun z => z rfl) (h2.2.resolve_left fun z => z rfl)]
theorem lc_trans : ∀ a b c : List Nat, ltCps b a = false → ltCps c b = false → ltCps c a = false
  | [], b, c, _, h2 => by
    cases c with
    | nil => rfl
    | cons => rfl
  | a :: r, [], c, h1, _ => by simp [ltCps] at h1
  | a :: r, b :: t, [], _, h2 => by simp [ltCps] at h2
  | a :: r, b :: t, c :: u, h1, h2 => by
    simp only [ltCps, Bool.or_eq_false_iff, Bool.and_eq_false_iff, decide_eq_false_iff_not, beq_eq_false_iff_ne] at h1 h2 ⊢
    refine ⟨by omega, ?_⟩
    by_cases e : c = a
    · have e1 : b = a := by omega
      have e2 : c = b := by omega
      exact .inr (lc_trans r t u (h1.2.resolve_left fun z => z e1) (h2.2.resolve_left fun z => z e2))
    · exact .inl e
/-- not later -/
def sle (a b : Str) : Bool := !ltCps b.cps.toList a.cps.toList
theorem sle_refl (a : Str) : sle a a = true := by simp [sle, lc_irr]
theorem sle_total (a b : Str) : sle a b = true ∨ sle b a = true := by
  unfold sle
  cases h : ltCps b.cps.toList a.cps.toList with
  | false => exact .inl rfl
  | true => exact .inr (by rw [lc_asym _ _ h]; rfl)
theorem sle_trans {a b c : Str} (h1 : sle a b = true) (h2 : sle b c = true) : sle a c = true := by
  unfold sle at *
  rw [Bool.not_eq_true'] at *
  exact lc_trans _ _ _ h1 h2
theorem sle_anti {a b : Str} (h1 : sle a b = true) (h2 : sle b a = true) : a = b := by
  unfold sle at *
  rw [Bool.not_eq_true'] at *
  have := lc_anti _ _ h2 h1
  cases a; cases b
  simp only [Str.mk.injEq]
  exact Array.toList_inj.mp this
theorem sorted_pair : ∀ {xs : List Str}, sortedS xs = true → xs.Pairwise fun a b => sle a b = true
  | [], _ => .nil
  | [x], _ => List.pairwise_singleton _ _
  | x :: y :: r, h => by
    have h : (!ltCps y.cps.toList x.cps.toList && risingS y r) = true := h
    rw [Bool.and_eq_true] at h
    have t : (y :: r).Pairwise fun a b => sle a b = true := sorted_pair (xs := y :: r) h.2
    refine List.pairwise_cons.mpr ⟨fun b hb => ?_, t⟩
    rcases List.mem_cons.mp hb with rfl | hb
    · exact h.1
    · exact sle_trans (show sle x y = true from h.1) ((List.pairwise_cons.mp t).1 b hb)
theorem pair_sorted {xs : List Str} (h : xs.Pairwise fun a b => sle a b = true) : sortedS xs = true :=
  sortedS_of_pairwise xs (h.imp fun {a b} z => by unfold sle at z; rwa [Bool.not_eq_true'] at z)
theorem sle_uniq : ∀ {xs ys : List Str}, xs.Perm ys → xs.Pairwise (fun a b => sle a b = true) → ys.Pairwise (fun a b => sle a b = true) → xs = ys
  | [], ys, h, _, _ => (List.nil_perm.mp h).symm
  | x :: xs, [], h, _, _ => absurd h.length_eq (by simp)
  | x :: xs, y :: ys, h, h1, h2 => by
    obtain ⟨a1, b1⟩ := List.pairwise_cons.mp h1
    obtain ⟨a2, b2⟩ := List.pairwise_cons.mp h2
    have e : x = y := by
      have m1 : x ∈ y :: ys := h.mem_iff.mp List.mem_cons_self
      have m2 : y ∈ x :: xs := h.mem_iff.mpr List.mem_cons_self
      rcases List.mem_cons.mp m1 with e | m1
      · exact e
      · rcases List.mem_cons.mp m2 with e | m2
        · exact e.symm
        · exact sle_anti (a1 _ m2) (a2 _ m1)
    subst e
    rw [sle_uniq (List.Perm.cons_inv h) b1 b2]
theorem sorted_uniq {xs ys : List Str} (h : xs.Perm ys) (h1 : sortedS xs = true) (h2 : sortedS ys = true) : xs = ys := sle_uniq h (sorted_pair h1) (sorted_pair h2)
/-- rows by name, put into order -/
def insR {α : Type} (r : Str × α) : List (Str × α) → List (Str × α)
  | [] => [r]
  | s :: t => if sle r.1 s.1 = true then r :: s :: t else s :: insR r t
def srtR {α : Type} : List (Str × α) → List (Str × α)
  | [] => []
  | r :: t => insR r (srtR t)
section
variable {α : Type}
theorem insR_perm (r : Str × α) : ∀ t, (insR r t).Perm (r :: t)
  | [] => .refl _
  | s :: t => by
    unfold insR
    split
    · exact .refl _
    · exact ((insR_perm r t).cons s).trans (.swap _ _ _)
theorem srtR_perm : ∀ t : List (Str × α), (srtR t).Perm t
  | [] => .refl _
  | r :: t => (insR_perm r _).trans ((srtR_perm t).cons r)
theorem insR_srt (r : Str × α) : ∀ t : List (Str × α), (t.Pairwise fun a b => sle a.1 b.1 = true) → (insR r t).Pairwise fun a b => sle a.1 b.1 = true
  | [], _ => List.pairwise_singleton _ _
  | s :: t, h => by
    unfold insR
    split
    · rename_i h1
      refine List.pairwise_cons.mpr ⟨fun b hb => ?_, h⟩
      rcases List.mem_cons.mp hb with rfl | hb
      · exact h1
      · exact sle_trans h1 ((List.pairwise_cons.mp h).1 b hb)
    · rename_i h1
      obtain ⟨a1, b1⟩ := List.pairwise_cons.mp h
      refine List.pairwise_cons.mpr ⟨fun b hb => ?_, insR_srt r t b1⟩
      rcases List.mem_cons.mp ((insR_perm r t).mem_iff.mp hb) with rfl | hb
      · exact (sle_total _ _).resolve_left h1
      · exact a1 b hb
theorem srtR_srt : ∀ t : List (Str × α), (srtR t).Pairwise fun a b => sle a.1 b.1 = true
  | [] => .nil
  | r :: t => insR_srt r _ (srtR_srt t)
theorem srtR_names (t : List (Str × α)) : sortedS ((srtR t).map (·.1)) = true := pair_sorted (List.pairwise_map.mpr (srtR_srt t))
theorem srtR_uniq (t : List (Str × α)) (ks : List Str) (zs : List Str) (e : t.map (·.1) = ks) (h : zs.Perm ks) (hs : sortedS zs = true) : zs = (srtR t).map (·.1) :=
  sorted_uniq (h.trans (e ▸ ((srtR_perm t).map _).symm)) hs (srtR_names t)
theorem srtR_id : ∀ {t : List (Str × α)}, (t.Pairwise fun a b => sle a.1 b.1 = true) → srtR t = t
  | [], _ => rfl
  | r :: t, h => by
    obtain ⟨a1, b1⟩ := List.pairwise_cons.mp h
    unfold srtR
    rw [srtR_id b1]
    cases t with
    | nil => rfl
    | cons s t => unfold insR; rw [if_pos (a1 s List.mem_cons_self)]
theorem srtR_mem {t : List (Str × α)} {r : Str × α} : r ∈ srtR t ↔ r ∈ t := (srtR_perm t).mem_iff
theorem srtR_len (t : List (Str × α)) : (srtR t).length = t.length := (srtR_perm t).length_eq
end
theorem lookup_mem {α : Type} {x : Str} {a : α} : ∀ {t : List (Str × α)}, (t.map (·.1)).Nodup → (x, a) ∈ t → t.lookup x = some a
  | [], _, h => by cases h
  | (y, b) :: t, nd, h => by
    obtain ⟨n1, n2⟩ := List.nodup_cons.mp (show (y :: t.map (·.1)).Nodup from nd)
    rw [List.lookup_cons]
    rcases List.mem_cons.mp h with e | h
    · cases e; rw [beq_self_eq_true]
    · have : x ≠ y := fun e => n1 (e ▸ List.mem_map.mpr ⟨_, h, rfl⟩)
      rw [beq_eq_false_iff_ne.mpr this]
      exact lookup_mem n2 h
theorem lookup_none {α : Type} {x : Str} : ∀ {t : List (Str × α)}, x ∉ t.map (·.1) → t.lookup x = none
  | [], _ => rfl
  | (y, b) :: t, h => by
    rw [List.lookup_cons]
    have h1 : x ≠ y := fun e => h (by rw [e]; exact List.mem_cons_self)
    rw [beq_eq_false_iff_ne.mpr h1]
    exact lookup_none fun z => h (List.mem_cons_of_mem _ z)
theorem lookup_perm {α : Type} {x : Str} {s t : List (Str × α)} (h : s.Perm t) (nd : (t.map (·.1)).Nodup) : s.lookup x = t.lookup x := by
  have nds : (s.map (·.1)).Nodup := (h.map _).nodup_iff.mpr nd
  by_cases hx : x ∈ t.map (·.1)
  · obtain ⟨⟨y, a⟩, hm, rfl⟩ := List.mem_map.mp hx
    rw [lookup_mem nd hm, lookup_mem nds (h.mem_iff.mpr hm)]
  · rw [lookup_none hx, lookup_none fun z => hx ((h.map _).mem_iff.mp z)]
end Mq

namespace Dn
open PySem PySem.Spec PyProof.Rows L2
/-! ### a, b = x, y -/
section
variable {X : Cx} {W : WX} {F : Fm} {ps : List V} {σ : L2.St} {G H : Hp} {A B : List Addr} {env : Ev} {β : Type} {ok : β → Ev → Prop} {e e1 e2 e3 tg : Expr} {es : List Expr} {d d1 d2 d3 : DE} {K1 : VK} {x y z : Str} {pos px py pz pt p : Pos} {i j l : Nat} {kt k2 : Nat}
/-- e is evaluated beside what B owns -/
theorem SE.seqF (h : SE X W e d) {f : T → Ev → Rs β} (I : EvIs X.K G H ps σ env A) (R : Rel F G H (A ++ B)) (P : ((d env).bind f).post ok (exP X W F ps G))
    (k : ∀ t env' v G' H' A' B', Same G G' → EvIs X.K G' H' ps σ env' A' → TIs X.K G' H' v t B' → Rel F G' H' (B' ++ (A' ++ B)) → (∀ a ∈ B, H' a = H a) → (f t env').post ok (exP X W F ps G') → K1 v H') : RunE X e σ H K1 := by
  have R0 : Rel ⟨G, H, fun a => a ∈ A⟩ G H A := R.start (fun b hb => List.mem_append_left _ hb) R.left.nd
  refine h _ ps σ G H A K1 env I R0 ?_
  cases q : d env with
  | ok t env' =>
    rw [q] at P
    intro v G' H' A' B' s I' i R'
    obtain ⟨R2, s2, k2⟩ := Rel.back R R'
    rw [List.append_assoc] at R2
    exact k t env' v G' H' A' B' s I' i R2 k2 (post_up s P)
  | exc c fs env' =>
    rw [q] at P
    intro cls dx σ' G' H' A' s I' R' x
    obtain ⟨R2, s2, k2⟩ := Rel.back R R'
    exact P cls dx σ' G' H' A' s I' R2.left x
  | stuck => rw [q] at P; exact P
def dPar2 (i j : Nat) (d1 d2 : DE) : DS := fun env => (d1 env).bind fun t env => (d2 env).bind fun u env => nxO ((putS i t env).bind fun env => putS j u env)
theorem SS.par2 (hc : X.calm = true) (hN : X.N.Nodup) (hi : X.N[i]? = some x) (hj : X.N[j]? = some y) (hij : i ≠ j) (hx : X.env.scope.names.lookup x = some .local) (hy : X.env.scope.names.lookup y = some .local)
    (hw : swappedStores [.Tuple [.Name x px, .Name y py] kt pt] (.Tuple [e1, e2] k2 p) X.env = pure (some [x, y])) (hs : swapsWithSole [.Tuple [.Name x px, .Name y py] kt pt] (.Tuple [e1, e2] k2 p) pos.line X.env = pure false)
    (he : starEach [e1, e2] X.env = (false, eval e1 X.env) :: starEach [e2] X.env) (he2 : starEach [e2] X.env = (false, eval e2 X.env) :: starEach [] X.env)
    (h1 : SE X W e1 d1) (h2 : SE X W e2 d2) : SS X W (.Assign [.Tuple [.Name x px, .Name y py] kt pt] (.Tuple [e1, e2] k2 p) pos) (dPar2 i j d1 d2) := fun F ps σ G H A D env I R P => by
  refine PS.go (ps_par hc hN hi hj hij hx hy (pa_cons pe_run (pa_cons pe_run pa_nil he2) he) hw hs) ?_
  refine h1.seq I R P fun t env1 v G1 H1 A1 B1 s1 I1 i1 R1 P1 => ?_
  refine h2.seqF (B := B1) I1 (R1.perm List.perm_append_comm) P1 fun u env2 w G2 H2 A2 B2 s2 I2 i2 R2 k2 P2 => ?_
  refine ⟨v, w, rfl, ?_⟩
  cases q : (putS i t env2).bind fun env => putS j u env with
  | none => rw [q] at P2; exact P2.elim
  | some env4 =>
    rw [q] at P2
    obtain ⟨env3, q1, q2⟩ := Option.bind_eq_some_iff.mp q
    have i1' := i1.up (H' := H2) s2 k2
    have R3 : Rel F G2 H2 (B2 ++ (B1 ++ A2)) := R2.perm (List.Perm.append_left _ List.perm_append_comm)
    unfold putS at q1 q2
    by_cases hp : isPar (getS env2 i) = true
    · rw [if_pos hp] at q1; cases q1
    · rw [if_neg hp] at q1
      cases q1
      obtain ⟨A3, C3, I3, m3, n3, _⟩ := I2.put (by simpa using hp) i1'
      have R4 : Rel F G2 H2 (B2 ++ A3) := R3.sub (fun a ha => (List.mem_append.mp ha).elim (List.mem_append_left _) fun z => List.mem_append_right _ (m3 a z)) (by
        obtain ⟨a1, a2, a3⟩ := List.nodup_append.mp R3.nd
        exact List.nodup_append.mpr ⟨a1, n3 a2, fun a ha b hb => a3 a ha b (m3 b hb)⟩)
      by_cases hp2 : isPar (getS (setS env2 i (.loc t)) j) = true
      · rw [if_pos hp2] at q2; cases q2
      · rw [if_neg hp2] at q2
        cases q2
        obtain ⟨A4, I4, R5⟩ := I3.putR (by simpa using hp2) i2 R4
        exact P2 _ G2 H2 A4 (s1.trans s2) I4 R5
def dPar3 (i j l : Nat) (ds : Ev → Rs (List D)) : DS := fun env => (ds env).bind fun xs env => match xs with
  | [a, b, c] => nxO ((putS i (.d a) env).bind fun env => (putS j (.d b) env).bind fun env => putS l (.d c) env)
  | _ => .stuck
theorem SS.par3 {ds : Ev → Rs (List D)} (hc : X.calm = true) (hN : X.N.Nodup) (hi : X.N[i]? = some x) (hj : X.N[j]? = some y) (hl : X.N[l]? = some z) (hij : i ≠ j) (hil : i ≠ l) (hjl : j ≠ l) (hx : X.env.scope.names.lookup x = some .local) (hy : X.env.scope.names.lookup y = some .local) (hz : X.env.scope.names.lookup z = some .local)
    (hw : swappedStores [.Tuple [.Name x px, .Name y py, .Name z pz] kt pt] (.Tuple [e1, e2, e3] k2 p) X.env = pure (some [x, y, z])) (hs : swapsWithSole [.Tuple [.Name x px, .Name y py, .Name z pz] kt pt] (.Tuple [e1, e2, e3] k2 p) pos.line X.env = pure false)
    (h : SA X W [e1, e2, e3] ds) : SS X W (.Assign [.Tuple [.Name x px, .Name y py, .Name z pz] kt pt] (.Tuple [e1, e2, e3] k2 p) pos) (dPar3 i j l ds) := fun F ps σ G H A D env I R P =>
  PS.go (ps_par3 hc hN hi hj hl hij hil hjl hx hy hz pa_run hw hs) (h.seq I R P fun xs env1 vs G1 H1 A1 s1 I1 i1 R1 P1 => by
    cases i1 with
    | nil => exact P1.elim
    | cons a1 t =>
      cases t with
      | nil => exact P1.elim
      | cons a2 t =>
        cases t with
        | nil => exact P1.elim
        | cons a3 t =>
          cases t with
          | cons _ _ => exact P1.elim
          | nil =>
            refine ⟨_, _, _, rfl, ?_⟩
            dsimp only at P1
            cases q : (putS i (.d _) env1).bind fun env => (putS j (.d _) env).bind fun env => putS l (.d _) env with
            | none => rw [q] at P1; exact P1.elim
            | some env4 =>
              rw [q] at P1
              obtain ⟨env2, q1, q2⟩ := Option.bind_eq_some_iff.mp q
              obtain ⟨env3, q3, q4⟩ := Option.bind_eq_some_iff.mp q2
              obtain ⟨A2, I2, R2⟩ := putS_run (B := []) I1 R1 (.d a1) q1
              obtain ⟨A3, I3, R3⟩ := putS_run (B := []) I2 R2 (.d a2) q3
              obtain ⟨A4, I4, R4⟩ := putS_run (B := []) I3 R3 (.d a3) q4
              exact P1 _ G1 H1 A4 s1 I4 R4)
/-! ### name op= e, ints -/
def dAug (i : Nat) (f : Int → Int → Int) (d : DE) : DS := fun env => match treeS (getS env i) with
  | some (.d (.int a)) => (d env).bind fun t env => match t with
    | .d (.int b) => nxO (putS i (.d (.int (f a b))) env)
    | _ => .stuck
  | _ => .stuck
theorem SS.aug {op : Operator} {f : Int → Int → Int} (ho : PIp X op (ipI f)) (hN : X.N.Nodup) (hi : X.N[i]? = some x) (hx : locB X.env.scope x = true) (hf : fnB X x = true) (h : SE X W e d) : SS X W (.AugAssign (.Name x px) op e pos) (dAug i f d) := fun F ps σ G H A D env I R P => by
  refine PS.go (ps_aug hN hi (loc_of hx) pe_run ho (fn_ofB hf)) ?_
  unfold dAug at P
  cases q : treeS (getS env i) with
  | none => rw [q] at P; exact P.elim
  | some t0 =>
    rw [q] at P
    obtain ⟨v, B, C, h1, h2, _, _⟩ := I.tree q
    cases t0 with
    | d a =>
      cases a with
      | int a =>
        refine ⟨v, h1, ?_⟩
        cases h2 with
        | d h2 =>
          rw [h2.intE]
          refine h.seq I R P fun t env1 w G1 H1 A1 B1 s1 I1 i1 R1 P1 => ?_
          cases i1 with
          | d i1 =>
            cases i1 with
            | int b =>
              refine ⟨a, b, rfl, rfl, ?_⟩
              dsimp only at P1
              cases q2 : putS i (.d (.int (f a b))) env1 with
              | none => rw [q2] at P1; exact P1.elim
              | some env2 =>
                rw [q2] at P1
                obtain ⟨A2, I2, R2⟩ := putS_run (B := []) I1 R1 (.d (.int _)) q2
                exact P1 _ G1 H1 A2 s1 I2 R2
            | _ => exact P1.elim
          | _ => exact P1.elim
      | _ => exact P.elim
    | _ => exact P.elim
theorem SS.augAdd (hN : X.N.Nodup) (hi : X.N[i]? = some x) (hx : locB X.env.scope x = true) (hf : fnB X x = true) (h : SE X W e d) : SS X W (.AugAssign (.Name x px) .Add e pos) (dAug i (fun a b => a + b) d) := SS.aug ip_add hN hi hx hf h
theorem SS.augSub (hN : X.N.Nodup) (hi : X.N[i]? = some x) (hx : locB X.env.scope x = true) (hf : fnB X x = true) (h : SE X W e d) : SS X W (.AugAssign (.Name x px) .Sub e pos) (dAug i (fun a b => a - b) d) := SS.aug ip_sub hN hi hx hf h
/-- a statement that is not reached -/
def dNo : DS := fun _ => .stuck
theorem SS.no {st : Stmt} : SS X W st dNo := fun F ps σ G H A D env I R P => P.elim
def dNoE : DE := fun _ => .stuck
theorem SE.no : SE X W e dNoE := fun F ps σ G H A Q env I R P => P.elim
end
/-! ### built-in calls by values -/
def CallV1 (X : Cx) (f : Value) (o : D → Option T) : Prop := ∀ (F : Fm) (A : List Addr) (G H : Hp) (v : V) (x : D) (t : T) (Q : VK), Rel F G H A → Vw X.K G H v x → o x = some t → OkO X F G H A Q t → RunC X f [v] H Q
def CallVs (X : Cx) (f : Value) (o : List D → Option T) : Prop := ∀ (F : Fm) (A : List Addr) (G H : Hp) (vs : List V) (xs : List D) (t : T) (Q : VK), Rel F G H A → IsL X.K G vs xs → o xs = some t → OkO X F G H A Q t → RunC X f vs H Q
def dB1 (o : D → Option T) (d : Ev → Rs D) : DE := fun env => (d env).bind fun x env => ofO (o x) env
def dBs (o : List D → Option T) (ds : Ev → Rs (List D)) : DE := fun env => (ds env).bind fun xs env => ofO (o xs) env
section
variable {X : Cx} {W : WX} {e e1 e2 e3 : Expr} {es : List Expr} {x : Str} {p pos : Pos} {id T' : String} {o : D → Option T} {os : List D → Option T} {d : Ev → Rs D} {ds : Ev → Rs (List D)}
theorem SE.callB1 (ho : CallV1 X (.builtin id) o) (hm : X.mg x = none) (hv : bootBuiltins x = some (.builtin id)) (hg : Gl X x) (hn : x ≠ "__name__") (hdb : (x == ("__debug__" : Str)) = false) (he : starEach [e] X.env = (false, eval e X.env) :: starEach [] X.env) (hpl : (backTo pos (starEach [] X.env)).any (·.1) = false) (h : SV X W e d) : SE X W (.Call (.Name x p) [e] [] pos) (dB1 o d) := fun F ps σ G H A Q env I R P =>
  PE.go (pe_callB cr_run hg hm hv (pa_cons pe_run pa_nil he) hn hdb he hpl) (h.seq I R P fun z env1 v G1 H1 A1 s1 I1 i1 R1 P1 => by
    cases q : o z with
    | none => rw [q] at P1; exact P1.elim
    | some t => rw [q] at P1; exact ho F A1 G1 H1 v z t Q R1 i1 q (okO_of I1 R1 s1 P1))
theorem SE.callT1 (ho : CallV1 X (.type T') o) (hm : X.mg x = none) (hv : bootBuiltins x = some (.type T')) (hg : Gl X x) (hn : x ≠ "__name__") (hdb : (x == ("__debug__" : Str)) = false) (he : starEach [e] X.env = (false, eval e X.env) :: starEach [] X.env) (hpl : (backTo pos (starEach [] X.env)).any (·.1) = false) (h : SV X W e d) : SE X W (.Call (.Name x p) [e] [] pos) (dB1 o d) := fun F ps σ G H A Q env I R P =>
  PE.go (pe_callTy cr_run hg hm hv (pa_cons pe_run pa_nil he) hn hdb he hpl) (h.seq I R P fun z env1 v G1 H1 A1 s1 I1 i1 R1 P1 => by
    cases q : o z with
    | none => rw [q] at P1; exact P1.elim
    | some t => rw [q] at P1; exact ho F A1 G1 H1 v z t Q R1 i1 q (okO_of I1 R1 s1 P1))
theorem SE.callBs (ho : CallVs X (.builtin id) os) (hm : X.mg x = none) (hv : bootBuiltins x = some (.builtin id)) (hg : Gl X x) (hn : x ≠ "__name__") (hdb : (x == ("__debug__" : Str)) = false) (he : starEach (e :: es) X.env = (false, eval e X.env) :: starEach es X.env) (hpl : (backTo pos (starEach es X.env)).any (·.1) = false) (h : SA X W (e :: es) ds) : SE X W (.Call (.Name x p) (e :: es) [] pos) (dBs os ds) := fun F ps σ G H A Q env I R P =>
  PE.go (pe_callB cr_run hg hm hv pa_run hn hdb he hpl) (h.seq I R P fun z env1 v G1 H1 A1 s1 I1 i1 R1 P1 => by
    cases q : os z with
    | none => rw [q] at P1; exact P1.elim
    | some t => rw [q] at P1; exact ho F A1 G1 H1 v z t Q R1 i1 q (okO_of I1 R1 s1 P1))
end
section
variable {X : Cx}
/-! len -/
theorem call_lenDR : CallR X (.builtin "len") (fun xs H Q => ∃ a kvs, xs = [V.ref a] ∧ Rd H a (.dK kvs) ∧ Q (.int kvs.length) H) := by
  intro pins s σ H xs us Q I r h
  obtain ⟨a, kvs, rfl, ha, q⟩ := h
  obtain ⟨u, rfl, ru⟩ := vals1 r
  cases ru
  exact d_len I ha fun t s' I' => ⟨.int kvs.length, H, I', ⟨t, rfl⟩, q⟩
def lenD : D → Option Int
  | .list ds => some ds.length
  | .tup ds => some ds.length
  | .scr ns => some ns.length
  | .str z => if z.length ≤ sizeLine then some z.length else none
  | .dict ks _ => some ks.length
  | _ => none
def oLen (x : D) : Option T := (lenD x).map fun n => .d (.int n)
theorem cv_len : CallV1 X (.builtin "len") oLen := fun F A G H v x t Q R h e k => by
  obtain ⟨n, e1, rfl⟩ := Option.map_eq_some_iff.mp e
  have kk := k.data (.int n) R
  cases x with
  | list ds =>
    cases e1
    obtain ⟨a, xs, rfl, ha, r⟩ := h.list _ rfl
    exact CallR.go call_len ⟨_, _, rfl, .inl ⟨xs, SqL.of ha, rfl⟩, by rw [r.length]; exact kk⟩
  | tup ds =>
    cases e1
    obtain ⟨a, xs, rfl, ha, r⟩ := h.tup _ rfl
    exact CallR.go call_len ⟨_, _, rfl, .inr ⟨xs, SqT.of ha, rfl⟩, by rw [r.length]; exact kk⟩
  | scr ns =>
    cases e1
    obtain ⟨a, rfl, ha⟩ := h.scr _ rfl
    exact CallR.go call_len ⟨_, _, rfl, .inl ⟨_, ha, rfl⟩, by rw [List.length_map]; exact kk⟩
  | str z =>
    have e1 : (if z.length ≤ sizeLine then some (z.length : Int) else none) = some n := e1
    by_cases hz : z.length ≤ sizeLine
    · rw [if_pos hz] at e1
      cases e1
      rw [h.str _ rfl]
      exact CallR.go call_len ⟨_, _, rfl, ⟨hz, rfl⟩, kk⟩
    · rw [if_neg hz] at e1; cases e1
  | dict ks ds =>
    cases e1
    obtain ⟨a, kv, rfl, ha, hk, r⟩ := h.dict _ _ rfl
    subst hk
    exact CallR.go call_lenDR ⟨a, kv, rfl, ha, by rw [← List.length_map (f := fun p : Key × V => p.1)]; exact kk⟩
  | _ => cases e1
/-! abs, int, max, min of two -/
def oAbs : D → Option T
  | .int i => some (.d (.int (if i < 0 then -i else i)))
  | _ => none
theorem cv_abs : CallV1 X (.builtin "abs") oAbs := fun F A G H v x t Q R h e k => by
  cases x with
  | int i => cases e; rw [h.int _ rfl]; exact CallR.go call_abs ⟨i, rfl, k.data (.int _) R⟩
  | _ => cases e
def oInt : D → Option T
  | .int i => some (.d (.int i))
  | .bool b => some (.d (.int (if b then 1 else 0)))
  | _ => none
theorem cv_int : CallV1 X (.type "int") oInt := fun F A G H v x t Q R h e k => by
  cases x with
  | int i => cases e; rw [h.int _ rfl]; exact CallR.go call_int1 (.inl ⟨i, rfl, k.data (.int _) R⟩)
  | bool b => cases e; rw [h.bool _ rfl]; exact CallR.go call_int1 (.inr ⟨b, rfl, k.data (.int _) R⟩)
  | _ => cases e
def oMax2 : List D → Option T
  | [.int i, .int j] => some (.d (.int (if j > i then j else i)))
  | _ => none
def oMin2 : List D → Option T
  | [.int i, .int j] => some (.d (.int (if j < i then j else i)))
  | _ => none
theorem cv_max2 (hc : X.calm = true) : CallVs X (.builtin "max") oMax2 := fun F A G H vs xs t Q R h e k => by
  unfold oMax2 at e
  split at e
  · cases e
    cases h with
    | cons h1 r =>
      cases r with
      | cons h2 r =>
        cases r
        rw [h1.intE, h2.intE]
        exact CallR.go (call_max2 hc) ⟨_, _, rfl, k.data (.int _) R⟩
  · cases e
theorem cv_min2 (hc : X.calm = true) : CallVs X (.builtin "min") oMin2 := fun F A G H vs xs t Q R h e k => by
  unfold oMin2 at e
  split at e
  · cases e
    cases h with
    | cons h1 r =>
      cases r with
      | cons h2 r =>
        cases r
        rw [h1.intE, h2.intE]
        exact CallR.go (call_min2 hc) ⟨_, _, rfl, k.data (.int _) R⟩
  · cases e
/-! lists of ints, bools, texts -/
def intsD : List D → Option (List Int)
  | [] => some []
  | .int i :: ds => (intsD ds).map (i :: ·)
  | _ => none
def boolsD : List D → Option (List Bool)
  | [] => some []
  | .bool i :: ds => (boolsD ds).map (i :: ·)
  | _ => none
def strsD : List D → Option (List Str)
  | [] => some []
  | .str i :: ds => (strsD ds).map (i :: ·)
  | _ => none
theorem intsD_is {K : PySem.W.Frag} {G : Hp} : ∀ {ds : List D} {vs : List V} {ns : List Int}, IsL K G vs ds → intsD ds = some ns → vs = ns.map V.int
  | [], _, _, h, e => by cases h; cases e; rfl
  | d :: ds, _, ns, h, e => by
    cases h with
    | cons h t =>
      cases d with
      | int i =>
        obtain ⟨ms, e1, e2⟩ := Option.map_eq_some_iff.mp (show (intsD ds).map (i :: ·) = some ns from e)
        subst e2
        rw [h.intE, intsD_is t e1]; rfl
      | _ => cases e
theorem boolsD_is {K : PySem.W.Frag} {G : Hp} : ∀ {ds : List D} {vs : List V} {ns : List Bool}, IsL K G vs ds → boolsD ds = some ns → vs = ns.map V.bl
  | [], _, _, h, e => by cases h; cases e; rfl
  | d :: ds, _, ns, h, e => by
    cases h with
    | cons h t =>
      cases d with
      | bool i =>
        obtain ⟨ms, e1, e2⟩ := Option.map_eq_some_iff.mp (show (boolsD ds).map (i :: ·) = some ns from e)
        subst e2
        rw [h.boolE, boolsD_is t e1]; rfl
      | _ => cases e
theorem strsD_is {K : PySem.W.Frag} {G : Hp} : ∀ {ds : List D} {vs : List V} {ns : List Str}, IsL K G vs ds → strsD ds = some ns → vs = ns.map V.str
  | [], _, _, h, e => by cases h; cases e; rfl
  | d :: ds, _, ns, h, e => by
    cases h with
    | cons h t =>
      cases d with
      | str i =>
        obtain ⟨ms, e1, e2⟩ := Option.map_eq_some_iff.mp (show (strsD ds).map (i :: ·) = some ns from e)
        subst e2
        rw [h.strE, strsD_is t e1]; rfl
      | _ => cases e
def oSum : D → Option T
  | .list ds => (intsD ds).map fun ns => .d (.int ns.sum)
  | _ => none
theorem cv_sum (hc : X.calm = true) : CallV1 X (.builtin "sum") oSum := fun F A G H v x t Q R h e k => by
  cases x with
  | list ds =>
    obtain ⟨ns, e1, rfl⟩ := Option.map_eq_some_iff.mp (show (intsD ds).map (fun ns => T.d (.int ns.sum)) = some t from e)
    obtain ⟨a, xs, rfl, ha, r⟩ := h.list _ rfl
    rw [intsD_is r e1] at ha
    exact CallR.go (cr_sum hc) ⟨a, ns, rfl, SqL.of ha, k.data (.int _) R⟩
  | _ => cases e
def oAll : D → Option T
  | .list ds => (boolsD ds).map fun ns => .d (.bool (ns.all id))
  | _ => none
def oAny : D → Option T
  | .list ds => (boolsD ds).map fun ns => .d (.bool (ns.any id))
  | _ => none
theorem cv_all (hc : X.calm = true) : CallV1 X (.builtin "all") oAll := fun F A G H v x t Q R h e k => by
  cases x with
  | list ds =>
    obtain ⟨ns, e1, rfl⟩ := Option.map_eq_some_iff.mp (show (boolsD ds).map (fun ns => T.d (.bool (ns.all id))) = some t from e)
    obtain ⟨a, xs, rfl, ha, r⟩ := h.list _ rfl
    rw [boolsD_is r e1] at ha
    exact CallR.go (cr_all hc) ⟨a, ns, rfl, SqL.of ha, k.data (.bl _) R⟩
  | _ => cases e
theorem cv_any (hc : X.calm = true) : CallV1 X (.builtin "any") oAny := fun F A G H v x t Q R h e k => by
  cases x with
  | list ds =>
    obtain ⟨ns, e1, rfl⟩ := Option.map_eq_some_iff.mp (show (boolsD ds).map (fun ns => T.d (.bool (ns.any id))) = some t from e)
    obtain ⟨a, xs, rfl, ha, r⟩ := h.list _ rfl
    rw [boolsD_is r e1] at ha
    exact CallR.go (cr_any hc) ⟨a, ns, rfl, SqL.of ha, k.data (.bl _) R⟩
  | _ => cases e
/-! list(x), tuple(x) -/
def oList : D → Option T
  | .list ds => some (.lst ds)
  | .tup ds => some (.lst ds)
  | .dict ks _ => some (.lst (ks.map kD))
  | _ => none
theorem kD_isL {K : PySem.W.Frag} {G : Hp} : ∀ ks : List Key, IsL K G (ks.map kV) (ks.map kD)
  | [] => .nil
  | k :: ks => .cons (kD_is k) (kD_isL ks)
theorem cv_list (hc : X.calm = true) : CallV1 X (.type "list") oList := fun F A G H v x t Q R h e k => by
  cases x with
  | list ds =>
    cases e
    obtain ⟨a, xs, rfl, ha, r⟩ := h.list _ rfl
    exact CallR.go call_list_of ⟨a, xs, rfl, .inl (SqL.of ha), fun p hp => k.lst r R hp⟩
  | tup ds =>
    cases e
    obtain ⟨a, xs, rfl, ha, r⟩ := h.tup _ rfl
    exact CallR.go call_list_of ⟨a, xs, rfl, .inr (SqT.of ha), fun p hp => k.lst r R hp⟩
  | dict ks ds =>
    cases e
    obtain ⟨a, kv, rfl, ha, hk, r⟩ := h.dict _ _ rfl
    subst hk
    refine CallR.go (call_listD hc) ⟨a, kv, rfl, ha, fun p hp => ?_⟩
    refine k.lst ?_ R hp
    have : (kv.map fun kv => kV kv.1) = (kv.map (·.1)).map kV := by rw [List.map_map]; rfl
    rw [this]
    exact kD_isL _
  | _ => cases e
def oTuple : D → Option T
  | .list ds => some (.d (.tup ds))
  | _ => none
theorem cv_tuple : CallV1 X (.type "tuple") oTuple := fun F A G H v x t Q R h e k => by
  cases x with
  | list ds =>
    cases e
    obtain ⟨a, xs, rfl, ha, r⟩ := h.list _ rfl
    exact CallR.go call_tuple_of ⟨a, xs, rfl, .inl ⟨SqL.of ha, fun p hp => k.tup r R hp⟩⟩
  | _ => cases e
end
end Dn

namespace Dn
open PySem PySem.Spec PyProof.Rows L2
/-! ### isinstance -/
def tyD : D → Option String
  | .none => some "NoneType"
  | .bool _ => some "bool"
  | .int _ => some "int"
  | .str _ => some "str"
  | .list _ => some "list"
  | .tup _ => some "tuple"
  | .dict _ _ => some "dict"
  | .dictT _ _ => some "dict"
  | _ => none
theorem tyD_vw {K : PySem.W.Frag} {G H : Hp} {v : V} {x : D} {T : String} (h : Vw K G H v x) (e : tyD x = some T) (nd : ∀ ks ds, x ≠ .dictT ks ds) : TyX K H v (.type T) := by
  cases x with
  | none => cases e; rw [h.none rfl]; exact .base .non
  | bool => cases e; rw [h.bool _ rfl]; exact .base (.bl _)
  | int => cases e; rw [h.int _ rfl]; exact .base (.int _)
  | str => cases e; rw [h.str _ rfl]; exact .base (.str _)
  | list => cases e; obtain ⟨a, xs, rfl, ha, _⟩ := h.list _ rfl; exact .base (.lst ha)
  | tup => cases e; obtain ⟨a, xs, rfl, ha, _⟩ := h.tup _ rfl; exact .base (.tup ha)
  | dict ks ds =>
    cases e
    obtain ⟨a, kv, rfl, ha, _⟩ := h.dict _ _ rfl
    rcases ha with ha | ⟨o, ha⟩
    · exact .base (.dK ha)
    · exact .fDict ha
  | dictT ks ds => exact absurd rfl (nd ks ds)
  | _ => cases e
def notT : D → Bool
  | .dictT _ _ => false
  | _ => true
theorem notT_ne {x : D} (h : notT x = true) : ∀ ks ds, x ≠ .dictT ks ds := fun ks ds e => by subst e; cases h
/-- isinstance(x, T), T built-in -/
def isaD (T : String) (x : D) : Option Bool := if notT x = true then (tyD x).bind fun t => kitB t T else none
def isaL (x : D) : List String → Option Bool
  | [] => some false
  | T :: Ts => (isaD T x).bind fun b => (isaL x Ts).map fun c => b || c
section
variable {X : Cx} {W : WX} {F : Fm} {ps : List V} {σ : L2.St} {G H : Hp} {A : List Addr} {env : Ev} {e e2 : Expr} {es : List Expr} {d : Ev → Rs D} {x2 : Str} {T : String} {p p2 pos : Pos} {k1 : Nat}
def dIsa (T : String) (d : Ev → Rs D) : DE := fun env => (d env).bind fun x env => match isaD T x with
  | some b => .ok (.d (.bool b)) env
  | none => .stuck
theorem SE.isa (hm : X.mg "isinstance" = none) (hm2 : X.mg x2 = none) (hv : bootBuiltins x2 = some (.type T)) (hg : Gl X "isinstance") (hg2 : Gl X x2) (hn2 : x2 ≠ "__name__") (hd2 : (x2 == ("__debug__" : Str)) = false) (he : starEach [e, .Name x2 p2] X.env = (false, eval e X.env) :: starEach [.Name x2 p2] X.env) (he2 : starEach [.Name x2 p2] X.env = (false, eval (.Name x2 p2) X.env) :: starEach [] X.env) (hpl : (backTo pos (starEach [.Name x2 p2] X.env)).any (·.1) = false)
    (h : SV X W e d) : SE X W (.Call (.Name "isinstance" p) [e, .Name x2 p2] [] pos) (dIsa T d) := fun F ps σ G H A Q env I R P =>
  PE.go (pe_callB call_isi hg hm boot_isinstance (pa_cons pe_run (pa_cons (pe_bltn (v := .ty T) hg2 hm2 hv rfl hn2 hd2) pa_nil he2) he) (by decide) (by decide) he hpl) (h.seq I R P fun x env1 v G1 H1 A1 s1 I1 i1 R1 P1 => by
    unfold isaD at P1
    by_cases hz : notT x = true
    · rw [if_pos hz] at P1
      cases q : tyD x with
      | none => rw [q] at P1; exact P1.elim
      | some t =>
        rw [q] at P1
        cases q2 : kitB t T with
        | none =>
          have : (some t).bind (fun t => kitB t T) = none := q2
          rw [this] at P1; exact P1.elim
        | some b =>
          have : (some t).bind (fun t => kitB t T) = some b := q2
          rw [this] at P1
          exact ⟨v, .ty T, _, .type T, b, rfl, .ty T, tyD_vw i1 q (notT_ne hz), kit_ty q2, P1 _ G1 H1 A1 [] s1 I1 (.d (.bl b)) R1⟩
    · rw [if_neg hz] at P1; exact P1.elim)
/-- .. of a tuple of built-in types -/
def isaLs (x : D) (Ts : List String) : Option Bool := if notT x = true then (tyD x).bind fun _ => isaL x Ts else none
def dIsaL (Ts : List String) (d : Ev → Rs D) : DE := fun env => (d env).bind fun x env => match isaLs x Ts with
  | some b => .ok (.d (.bool b)) env
  | none => .stuck
end
end Dn
namespace Dn
open PySem PySem.Spec PyProof.Rows L2
theorem Vw.new {K : PySem.W.Frag} {G H : Hp} {v : V} {x : D} {q : Addr} {o : HO} (h : Vw K G H v x) (hq : H q = Option.none) : Vw K G (upd H q o) v x where
  none := h.none
  bool := h.bool
  int := h.int
  str := h.str
  list := fun ds e => let ⟨a, xs, e, ha, r⟩ := h.list ds e; ⟨a, xs, e, by rw [upd_ne (ne_of_none ha hq)]; exact ha, r⟩
  tup := fun ds e => let ⟨a, xs, e, ha, r⟩ := h.tup ds e; ⟨a, xs, e, by rw [upd_ne (ne_of_none ha hq)]; exact ha, r⟩
  dict := fun ks ds e => let ⟨a, kv, e, ha, hk, r⟩ := h.dict ks ds e; ⟨a, kv, e, ha.elim (fun z => .inl (by rw [upd_ne (ne_of_none z hq)]; exact z)) fun ⟨o, z⟩ => .inr ⟨o, by rw [upd_ne (ne_of_none z hq)]; exact z⟩, hk, r⟩
  dictT := fun ks ds e => let ⟨a, kv, e, ha, hk, r⟩ := h.dictT ks ds e; ⟨a, kv, e, ha.elim (fun z => .inl (by rw [upd_ne (ne_of_none z hq)]; exact z)) fun ⟨o, z⟩ => .inr ⟨o, by rw [upd_ne (ne_of_none z hq)]; exact z⟩, hk, r⟩
  inst := fun C ns ds e => let ⟨a, dx, fs, e, ha, hn⟩ := h.inst C ns ds e; ⟨a, dx, fs, e, by rw [upd_ne (ne_of_none ha hq)]; exact ha, hn⟩
  scr := fun ns e => by
    obtain ⟨a, e, ha⟩ := h.scr ns e
    refine ⟨a, e, ?_⟩
    rcases ha with (ha | ⟨o, ha⟩) | ha
    · exact .inl (.inl (by rw [upd_ne (ne_of_none ha hq)]; exact ha))
    · exact .inl (.inr ⟨o, by rw [upd_ne (ne_of_none ha hq)]; exact ha⟩)
    · exact .inr ha
  val := h.val
theorem isaL_kit {K : PySem.W.Frag} {x : D} {t : String} (hz : notT x = true) (ht : tyD x = some t) : ∀ {Ts : List String} {b : Bool}, isaL x Ts = some b → PySem.W.kitAny K (.type t) (Ts.map Value.type) = some b
  | [], b, e => by cases e; rfl
  | T :: Ts, b, e => by
    unfold isaL isaD at e
    rw [if_pos hz, ht] at e
    obtain ⟨b1, e1, e2⟩ := Option.bind_eq_some_iff.mp e
    obtain ⟨c, e3, e4⟩ := Option.map_eq_some_iff.mp e2
    refine kitAny_cons (kit_ty e1) (fun hb => ?_) (fun hb => ?_)
    · subst hb
      have ih := isaL_kit (K := K) hz ht e3
      rw [← e4, Bool.false_or]; exact ih
    · subst hb; rw [← e4]; rfl
inductive TyNames (X : Cx) : List Expr → List String → Prop
  | nil : TyNames X [] []
  | cons {x : Str} {p : Pos} {T : String} {es : List Expr} {Ts : List String} (hm : X.mg x = none) (hv : bootBuiltins x = some (.type T)) (hg : Gl X x) (hn : x ≠ "__name__") (hd : (x == ("__debug__" : Str)) = false)
      (he : starEach (.Name x p :: es) X.env = (false, eval (.Name x p) X.env) :: starEach es X.env) (t : TyNames X es Ts) : TyNames X (.Name x p :: es) (T :: Ts)
theorem TyNames.pa {X : Cx} {es : List Expr} {Ts : List String} (h : TyNames X es Ts) : PA X es (fun σ H Q => Q (Ts.map V.ty) H) := by
  induction h with
  | nil => exact ⟨fun pos pins s σ H Q I q => pa_nil.run pos pins s σ H Q I q⟩
  | @cons x p T es Ts hm hv hg hn hd he t ih =>
    exact ⟨fun pos pins s σ H Q I q => (pa_cons (pe_bltn (v := .ty T) hg hm hv rfl hn hd) ih he).run pos pins s σ H Q I q⟩
theorem tys_paired : ∀ Ts : List String, Paired ClsV (Ts.map V.ty) (Ts.map Value.type)
  | [] => .nil
  | T :: Ts => .cons (.ty T) (tys_paired Ts)
section
variable {X : Cx} {W : WX} {F : Fm} {ps : List V} {σ : L2.St} {G H : Hp} {A : List Addr} {env : Ev} {e e2 e3 tg : Expr} {es : List Expr} {d : Ev → Rs D} {x x2 m : Str} {T : String} {p p2 pos apos cpos tp : Pos} {k1 : Nat} {Ts : List String} {i : Nat} {pa : Path} {dv : DE}
theorem SE.isaT (hm : X.mg "isinstance" = none) (hg : Gl X "isinstance") (hz : Ts.length ≤ sizeLine) (he : starEach [e, .Tuple es k1 p2] X.env = (false, eval e X.env) :: starEach [.Tuple es k1 p2] X.env) (he2 : starEach [.Tuple es k1 p2] X.env = (false, eval (.Tuple es k1 p2) X.env) :: starEach [] X.env) (hpl : (backTo pos (starEach [.Tuple es k1 p2] X.env)).any (·.1) = false)
    (ht : TyNames X es Ts) (h : SV X W e d) : SE X W (.Call (.Name "isinstance" p) [e, .Tuple es k1 p2] [] pos) (dIsaL Ts d) := fun F ps σ G H A Q env I R P =>
  PE.go (pe_callB call_isiT hg hm boot_isinstance (pa_cons pe_run (pa_cons (pe_tup ht.pa) pa_nil he2) he) (by decide) (by decide) he hpl) (h.seq I R P fun x env1 v G1 H1 A1 s1 I1 i1 R1 P1 => by
    cases q3 : isaLs x Ts with
    | none => rw [q3] at P1; exact P1.elim
    | some b =>
      rw [q3] at P1
      refine ⟨by rw [List.length_map]; exact hz, fun q hq => ?_⟩
      have s2 := Same.new (o := .tup (Ts.map V.ty)) R1.gh hq
      have kk : Q (.bl b) (upd H1 q (.tup (Ts.map V.ty))) := P1 _ _ _ A1 [] (s1.trans s2) (I1.up s2 (upd_off (R1.ne hq))) (.d (.bl b)) (R1.new hq)
      unfold isaLs at q3
      by_cases hz2 : notT x = true
      · rw [if_pos hz2] at q3
        obtain ⟨t, q2, q4⟩ := Option.bind_eq_some_iff.mp q3
        exact ⟨v, q, _, .type t, _, b, rfl, upd_same, tys_paired Ts, tyD_vw (i1.new hq) q2 (notT_ne hz2), isaL_kit hz2 q2 q4, kk⟩
      · rw [if_neg hz2] at q3; cases q3)
/-! ### slices -/
def cutD (ds : List D) (lo hi : Option Int) : List D := (ds.drop (HT.sIx ds.length 0 lo)).take (HT.sIx ds.length ds.length hi - HT.sIx ds.length 0 lo)
def sliceD (lo hi : Option Int) : D → Option Dn.T
  | .list ds => some (.lst (cutD ds lo hi))
  | .tup ds => if HT.sIx ds.length 0 lo = 0 ∧ HT.sIx ds.length ds.length hi = ds.length then none else some (.d (.tup (cutD ds lo hi)))
  | .str z => if z.length ≤ sizeLine then some (.d (.str (cutS z lo hi))) else none
  | _ => none
theorem cut_is {K : PySem.W.Frag} {vs : List V} {ds : List D} (r : IsL K G vs ds) (lo hi : Option Int) : IsL K G (cutV vs lo hi) (cutD ds lo hi) := by
  unfold cutV cutD
  rw [r.length]
  exact (r.drop _).take _
def SO (X : Cx) (W : WX) (e : Option Expr) (d : Ev → Rs (Option Int)) : Prop :=
  ∀ F ps σ G H A (Q : Option Int → Hp → Prop) env, EvIs X.K G H ps σ env A → Rel F G H A → (d env).post (fun o env' => ∀ G' H' A', Same G G' → EvIs X.K G' H' ps σ env' A' → Rel F G' H' A' → Q o H') (exP X W F ps G) →
    ∀ (pins : List (Addr × Obj)) (s : Shared), Inv X pins σ H s → wpAny (model X.prog X.w) X.A (evalPart e X.env) (fun u s' => ∃ o H', Inv X pins σ H' s' ∧ IsPart u o ∧ Q o H') X.xe s
def RunO' (X : Cx) (e : Option Expr) (σ : L2.St) (H : Hp) (Q : Option Int → Hp → Prop) : Prop := ∀ (pins : List (Addr × Obj)) (s : Shared), Inv X pins σ H s → wpAny (model X.prog X.w) X.A (evalPart e X.env) (fun u s' => ∃ o H', Inv X pins σ H' s' ∧ IsPart u o ∧ Q o H') X.xe s
theorem po_run {e : Option Expr} : PO X e (RunO' X e) := ⟨fun pins s _ _ _ I h => h pins s I⟩
def oNo : Ev → Rs (Option Int) := fun env => .ok none env
def oSm (d : DE) : Ev → Rs (Option Int) := fun env => (d env).bindD fun x env => match x with
  | .int i => .ok (some i) env
  | _ => .stuck
theorem SO.none : SO X W Option.none oNo := fun F ps σ G H A Q env I R P pins s J => po_none.run pins s σ H Q J (P G H A (Same.refl G) I R)
theorem SO.some {d : DE} (h : SE X W e d) : SO X W (Option.some e) (oSm d) := fun F ps σ G H A Q env I R P pins s J =>
  (po_some pe_run).run pins s σ H Q J (h.seqD I R P fun x env1 v G1 H1 A1 s1 I1 i1 R1 P1 => by
    cases x with
    | int i => exact ⟨i, i1.intE, P1 G1 H1 A1 s1 I1 R1⟩
    | _ => exact P1.elim)
def dSl (d : DE) (lo hi : Ev → Rs (Option Int)) : DE := fun env => (d env).bindD fun x env => (lo env).bind fun l env => (hi env).bind fun u env => ofO (sliceD l u x) env
/-- the slices of a list, of a tuple, of a text -/
def rSlA (K : PySem.W.Frag) : V → Option Int → Option Int → Hp → VK → Prop := fun x lo hi H Q => rSlL K x lo hi H Q ∨ rSlT K x lo hi H Q ∨ rSlS x lo hi H Q
theorem sl_any : SlR X (rSlA X.K) := SlR.or sl_list (SlR.or sl_tup sl_str)
theorem SO.seq {β : Type} {ok : β → Ev → Prop} {e : Option Expr} {d : Ev → Rs (Option Int)} {K1 : Option Int → Hp → Prop} (h : SO X W e d) {f : Option Int → Ev → Rs β} (I : EvIs X.K G H ps σ env A) (R : Rel F G H A) (P : ((d env).bind f).post ok (exP X W F ps G))
    (k : ∀ b env' G' H' A', Same G G' → EvIs X.K G' H' ps σ env' A' → Rel F G' H' A' → (f b env').post ok (exP X W F ps G') → K1 b H') : RunO' X e σ H K1 := by
  refine h F ps σ G H A K1 env I R ?_
  cases q : d env with
  | ok t env' =>
    rw [q] at P
    exact fun G' H' A' s I' R' => k t env' G' H' A' s I' R' (post_up s P)
  | exc c fs env' => rw [q] at P; exact P
  | stuck => rw [q] at P; exact P
theorem SE.slice {d : DE} {lo hi : Option Expr} {dl dh : Ev → Rs (Option Int)} (h : SE X W e d) (hl : SO X W lo dl) (hh : SO X W hi dh) : SE X W (.Subscript e (.Slice lo hi Option.none p2) pos) (dSl d dl dh) := fun F ps σ G H A Q env I R P =>
  PE.go (pe_slice sl_any pe_run po_run po_run) (h.seqD I R P fun x env1 v G1 H1 A1 s1 I1 i1 R1 P1 => hl.seq I1 R1 P1 fun l env2 G2 H2 A2 s2 I2 R2 P2 => hh.seq I2 R2 P2 fun u env3 G3 H3 A3 s3 I3 R3 P3 => by
    have i3 := (i1.up s2).up s3
    cases x with
    | list ds =>
      obtain ⟨a, xs, rfl, ha, r⟩ := i3.listE
      exact .inl ⟨a, xs, rfl, SqL.of (R3.gh _ _ ha), fun p hp => (okO_of I3 R3 ((s1.trans s2).trans s3) P3).lst (cut_is r l u) R3 hp⟩
    | tup ds =>
      obtain ⟨a, xs, rfl, ha, r⟩ := i3.tupE
      have P3 : (ofO (if HT.sIx ds.length 0 l = 0 ∧ HT.sIx ds.length ds.length u = ds.length then Option.none else Option.some (Dn.T.d (.tup (cutD ds l u)))) env3).post (okE X F ps σ G Q) (exP X W F ps G3) := P3
      by_cases hz : HT.sIx ds.length 0 l = 0 ∧ HT.sIx ds.length ds.length u = ds.length
      · rw [if_pos hz] at P3; exact P3.elim
      · rw [if_neg hz] at P3
        exact .inr (.inl ⟨a, xs, rfl, SqT.of (R3.gh _ _ ha), by rw [r.length]; exact hz, fun p hp => (okO_of I3 R3 ((s1.trans s2).trans s3) P3).tup (cut_is r l u) R3 hp⟩)
    | str z =>
      have P3 : (ofO (if z.length ≤ sizeLine then Option.some (Dn.T.d (.str (cutS z l u))) else Option.none) env3).post (okE X F ps σ G Q) (exP X W F ps G3) := P3
      by_cases hz : z.length ≤ sizeLine
      · rw [if_pos hz] at P3
        exact .inr (.inr ⟨z, i3.strE, hz, (okO_of I3 R3 ((s1.trans s2).trans s3) P3).data (.str _) R3⟩)
      · rw [if_neg hz] at P3; exact P3.elim
    | _ => exact P3.elim)
end
end Dn

namespace Dn
open PySem PySem.Spec PyProof.Rows L2
/-! ### stores to a place -/
def hasK {κ : Type} [DecidableEq κ] (ks : List κ) (k : κ) : Bool := ks.any fun j => decide (j = k)
def repD {κ : Type} [DecidableEq κ] : List κ → List D → κ → D → List D
  | j :: ks, d :: ds, k, x => (if j = k then x else d) :: repD ks ds k x
  | _, _, _, _ => []
def putKs {κ : Type} [DecidableEq κ] (ks : List κ) (k : κ) : List κ := if hasK ks k = true then ks else ks ++ [k]
def putDs {κ : Type} [DecidableEq κ] (ks : List κ) (ds : List D) (k : κ) (x : D) : List D := if hasK ks k = true then repD ks ds k x else ds ++ [x]
theorem any_map {κ : Type} [DecidableEq κ] (kv : List (κ × V)) (k : κ) : (kv.any fun p => decide (p.1 = k)) = hasK (kv.map (·.1)) k := by
  unfold hasK; rw [List.any_map]; rfl
theorem putK_keys {κ : Type} [DecidableEq κ] (kv : List (κ × V)) (k : κ) (v : V) : (putK kv k v).map (·.1) = putKs (kv.map (·.1)) k := by
  unfold putK putKs
  rw [any_map]
  by_cases h : hasK (kv.map (·.1)) k = true
  · rw [if_pos h, if_pos h, List.map_map]
    apply List.map_congr_left
    intro p _
    show (if p.1 = k then (p.1, v) else p).1 = p.1
    split <;> rfl
  · rw [if_neg h, if_neg h, List.map_append]; rfl
theorem rep_is {κ : Type} [DecidableEq κ] {K : PySem.W.Frag} {G : Hp} {k : κ} {v : V} {x : D} (hv : Is K G v x) : ∀ {kv : List (κ × V)} {ds : List D}, IsL K G (kv.map (·.2)) ds → IsL K G ((kv.map fun p => if p.1 = k then (p.1, v) else p).map (·.2)) (repD (kv.map (·.1)) ds k x)
  | [], _, h => by cases h; exact .nil
  | p :: kv, _, h => by
    cases h with
    | cons h t =>
      rw [List.map_cons, List.map_cons, List.map_cons]
      unfold repD
      refine .cons ?_ (rep_is hv t)
      by_cases e : p.1 = k
      · rw [if_pos e, if_pos e]; exact hv
      · rw [if_neg e, if_neg e]; exact h
theorem putK_vals {κ : Type} [DecidableEq κ] {K : PySem.W.Frag} {G : Hp} {k : κ} {v : V} {x : D} {kv : List (κ × V)} {ds : List D} (hv : Is K G v x) (r : IsL K G (kv.map (·.2)) ds) : IsL K G ((putK kv k v).map (·.2)) (putDs (kv.map (·.1)) ds k x) := by
  unfold putK putDs
  rw [any_map]
  by_cases h : hasK (kv.map (·.1)) k = true
  · rw [if_pos h, if_pos h]; exact rep_is hv r
  · rw [if_neg h, if_neg h, List.map_append]; exact r.snoc hv
/-- t[y] = x -/
def putT : T → D → D → Option T
  | .lst ds, .int k, x => (ixN ds.length k).map fun j => .lst (ds.set j x)
  | .dict ks ds, y, x => if ks.length < 1000000 then (keyD y).map fun k => .dict (putKs ks k) (putDs ks ds k x) else none
  | .dictT ks ds, y, x => if ks.length < 1000000 then (tkeyD y).map fun k => .dictT (putKs ks k) (putDs ks ds k x) else none
  | _, _, _ => none
def RunSt (X : Cx) (o i v : V) (H : Hp) (Q : Hp → Prop) : Prop := ∀ (pins : List (Addr × Obj)) (s : Shared) (σ : L2.St) (ov iv u : Value), Inv X pins σ H s → RelV o ov → RelV i iv → RelV v u →
    wpAny (model X.prog X.w) X.A (setItem ov iv u) (fun _ s' => ∃ H', Inv X pins σ H' s' ∧ Q H') X.xe s
theorem pset_run {X : Cx} : PSet X (RunSt X) := fun pins s σ H o i v ov iv u Q I r1 r2 r3 h => h pins s σ ov iv u I r1 r2 r3
section
variable {X : Cx} {W : WX} {F : Fm} {ps : List V} {σ : L2.St} {G H : Hp} {A B : List Addr} {env : Ev} {e e2 e3 tg value : Expr} {es : List Expr} {x m f C : Str} {p p2 pos apos cpos tp : Pos} {i j : Nat} {pa : Path} {d dv : DE} {dk : Ev → Rs D}
theorem sqLine : (1000000 : Nat) < sizeLine := by decide
theorem putT_run {t u : T} {y z : D} {o k v : V} {Q : Hp → Prop} (hu : X.A.units + 64 < cLine) (s0 : Same G H) (ht : TIs X.K G H o t B) (hk : Vw X.K G H k y) (hv : Is X.K G v z) (e : putT t y z = some u) (q : ∀ a o', a ∈ B → TIs X.K G (upd H a o') o u B → Q (upd H a o')) : RunSt X o k v H Q := fun pins s σ ov iv w J r1 r2 r3 => by
  cases t with
  | lst ds =>
    cases y with
    | int n =>
      obtain ⟨jx, e1, e2⟩ := Option.map_eq_some_iff.mp (show (ixN ds.length n).map (fun j => T.lst (ds.set j z)) = some u from e)
      subst e2
      cases ht with
      | @lst a xs _ ha r =>
        exact set_list pins s σ H _ k v ov iv w Q J r1 r2 r3 ⟨a, xs, n, jx, rfl, hk.int _ rfl, ha, by rw [r.length]; exact e1, q a _ List.mem_cons_self (.lst upd_same (r.set hv))⟩
    | _ => cases e
  | dict ks ds =>
    have e : (if ks.length < 1000000 then (keyD y).map fun k => T.dict (putKs ks k) (putDs ks ds k z) else none) = some u := by cases y <;> exact e
    by_cases hz : ks.length < 1000000
    · rw [if_pos hz] at e
      obtain ⟨kk, e1, e2⟩ := Option.map_eq_some_iff.mp e
      subst e2
      cases ht with
      | @dict a kv _ _ ha hkk r =>
        subst hkk
        cases r1
        have ek := keyD_vw hk e1
        have hl : kv.length < sizeLine := by rw [List.length_map] at hz; exact Nat.lt_trans hz sqLine
        exact d_setItem (by omega) J (.inl ⟨kv, kk, ha, ek, hl, rfl⟩) r2 r3 fun s4 J4 => ⟨_, J4, q a _ List.mem_cons_self (.dict upd_same (putK_keys kv kk v) (putK_vals hv r))⟩
    · rw [if_neg hz] at e; cases e
  | dictT ks ds =>
    have e : (if ks.length < 1000000 then (tkeyD y).map fun k => T.dictT (putKs ks k) (putDs ks ds k z) else none) = some u := by cases y <;> exact e
    by_cases hz : ks.length < 1000000
    · rw [if_pos hz] at e
      obtain ⟨kk, e1, e2⟩ := Option.map_eq_some_iff.mp e
      subst e2
      cases ht with
      | @dictT a kv _ _ ha hkk r =>
        subst hkk
        cases r1
        have hl : kv.length < sizeLine := by rw [List.length_map] at hz; exact Nat.lt_trans hz sqLine
        cases y with
        | tup es =>
          obtain ⟨b, xs, rfl, hb, rb⟩ := hk.tup _ rfl
          rw [keysD_is rb e1] at hb
          exact d_setItem (by omega) J (.inr ⟨kv, kk, b, ha, rfl, hb, hl, rfl⟩) r2 r3 fun s4 J4 => ⟨_, J4, q a _ List.mem_cons_self (.dictT upd_same (putK_keys kv kk v) (putK_vals hv r))⟩
        | _ => cases e1
    · rw [if_neg hz] at e; cases e
  | _ => cases e
theorem putT_own {t u : T} {y z : D} (e : putT t y z = some u) : isD t = false := by
  cases t with
  | d => cases e
  | _ => rfl
/-- the place's tree is another: the state behind a write to one of its addresses -/
theorem place_put {u : T} {vu : V} {C0 : List Addr} {a : Addr} {o' : HO} (R : Rel F G H A) (hp : A.Perm (B ++ C0)) (ha : a ∈ B) (ht : TIs X.K G (upd H a o') vu u B)
    (rb : ∀ G' H' u' B', Same G G' → (∀ a ∈ C0, H' a = H a) → TIs X.K G' H' vu u' B' → ∃ A', EvIs X.K G' H' ps σ (setE env i pa u') A' ∧ A'.Perm (B' ++ C0)) : ∃ A', EvIs X.K G (upd H a o') ps σ (setE env i pa u) A' ∧ Rel F G (upd H a o') A' := by
  have R1 := R.perm hp
  have hn : ∀ b ∈ C0, b ≠ a := fun b hb z => R1.dj b hb (z ▸ ha)
  obtain ⟨A', e', p'⟩ := rb G _ u B (Same.refl G) (upd_off hn) ht
  exact ⟨A', e', (R1.put (List.mem_append_left _ ha)).perm p'.symm⟩
/-- an expression that changes nothing -/
def SQ (X : Cx) (e : Expr) (f : Ev → Option D) : Prop := ∀ F ps σ G H A Q env y, EvIs X.K G H ps σ env A → Rel F G H A → f env = some y → (∀ k, Vw X.K G H k y → Q k H) → RunE X e σ H Q
theorem SQ.pl (h : SPl X e i pa) : SQ X e (fun env => (getE env i pa).map T.frz) := fun F ps σ G H A Q env y I R q k => by
  obtain ⟨t, e1, rfl⟩ := Option.map_eq_some_iff.mp q
  obtain ⟨v, vu, B, C0, h1, h2, h3, h4, h5⟩ := I.place R.gh e1
  exact h σ H _ v vu h1 h2 (k vu (h3.vw R.gh))
theorem SQ.int {n : Int} {k : Nat} : SQ X (.Constant (.int n) k pos) (fun _ => some (.int n)) := fun F ps σ G H A Q env y I R q k => by
  cases q; exact PE.go pe_int (k _ ((Is.int n).vw R.gh))
theorem SQ.str {n : Str} {k : Nat} : SQ X (.Constant (.str n) k pos) (fun _ => some (.str n)) := fun F ps σ G H A Q env y I R q k => by
  cases q; exact PE.go pe_str (k _ ((Is.str n).vw R.gh))
def stO (o : Option Ev) : Rs Fw := nxO o
def dItemQ (i : Nat) (pa : Path) (f : Ev → Option D) (dv : DE) : DS := fun env => (dv env).bindD fun x env => nxO ((f env).bind fun y => (getE env i pa).bind fun t => (putT t y x).map fun u => setE env i pa u)
abbrev ItemAsg (X : Cx) (e e2 : Expr) (tp : Pos) : Prop := ∀ v, assign (.Subscript e e2 tp) X.env v = (do
      let ov ← holding [v] (eval e X.env)
      let iv ← holding [v, ov] (eval e2 X.env)
      standAt tp
      holding [v, ov, iv] (setItem ov iv v)
      release [v, ov, iv] [])
theorem SS.itemQ {f : Ev → Option D} (hu : X.A.units + 64 < cLine) (ha : ItemAsg X e e2 tp)
    (hs : swapsWithSole [.Subscript e e2 tp] value pos.line X.env = pure false) (hw : swappedStores [.Subscript e e2 tp] value X.env = pure none)
    (h1 : (assignEach [.Subscript e e2 tp] X.env).map (·.2) = [assign (.Subscript e e2 tp) X.env]) (hv : SE X W value dv) (hp : SPl X e i pa) (hk : SQ X e2 f) : SS X W (.Assign [.Subscript e e2 tp] value pos) (dItemQ i pa f dv) := fun F ps σ G H A D env I R P => by
  refine PS.go (ps_asg pe_run (pg_sub pe_run pe_run pset_run ha) hs hw h1) (hv.seqD I R P fun x env1 v G1 H1 A1 s1 I1 i1 R1 P1 => ?_)
  cases q0 : f env1 with
  | none => rw [q0] at P1; exact P1.elim
  | some y =>
    rw [q0] at P1
    cases q : getE env1 i pa with
    | none =>
      have : ((some y).bind fun y => (getE env1 i pa).bind fun t => (putT t y x).map fun u => setE env1 i pa u) = none := by rw [q]; rfl
      rw [this] at P1; exact P1.elim
    | some t =>
      cases q2 : putT t y x with
      | none =>
        have : ((some y).bind fun y => (getE env1 i pa).bind fun t => (putT t y x).map fun u => setE env1 i pa u) = none := by rw [q]; show (putT t y x).map _ = none; rw [q2]; rfl
        rw [this] at P1; exact P1.elim
      | some u =>
        have : ((some y).bind fun y => (getE env1 i pa).bind fun t => (putT t y x).map fun u => setE env1 i pa u) = some (setE env1 i pa u) := by rw [q]; show (putT t y x).map _ = _; rw [q2]; rfl
        rw [this] at P1
        obtain ⟨o, vu, B, C0, g1, g2, g3, g4, g5⟩ := I1.place R1.gh q
        refine hp σ H1 _ o vu g1 g2 (hk F ps σ G1 H1 A1 _ env1 y I1 R1 q0 fun k hk' => ?_)
        refine putT_run hu R1.gh g3 hk' i1 q2 fun a w ha hT => ?_
        obtain ⟨A3, I3, R3⟩ := place_put R1 g4 ha hT (g5 (putT_own q2))
        exact P1 σ G1 _ A3 s1 I3 R3
/-! ### place.f = value -/
def putN (ns : List Str) (f : Str) : List Str := if f ∈ ns then ns else ns ++ [f]
def putL (ns : List Str) (ts : List T) (f : Str) (t : T) : List T := if f ∈ ns then setL ns ts f t else ts ++ [t]
theorem putF_names (f : Str) (v : V) : ∀ fs : List (Str × V), (putF f v fs).map (·.1) = putN (fs.map (·.1)) f
  | [] => by simp [putF, putN]
  | (g, x) :: r => by
    unfold putF
    by_cases e : g = f
    · subst e
      rw [if_pos rfl]
      simp [putN]
    · rw [if_neg e, List.map_cons, putF_names f v r]
      unfold putN
      rw [List.map_cons]
      by_cases h : f ∈ r.map (·.1)
      · rw [if_pos h, if_pos (List.mem_cons_of_mem _ h)]
      · rw [if_neg h, if_neg (fun z => (List.mem_cons.mp z).elim (fun z => e z.symm) h)]; rfl
theorem TIsL.putF {K : PySem.W.Frag} {f : Str} {v : V} {t : T} {B : List Addr} (ht : TIs K G H v t B) : ∀ {fs : List (Str × V)} {ts : List T} {A : List Addr}, TIsL K G H (fs.map (·.2)) ts A → ∃ A', TIsL K G H ((L2.putF f v fs).map (·.2)) (putL (fs.map (·.1)) ts f t) A' ∧ (∀ a ∈ A', a ∈ B ++ A) ∧ ((B ++ A).Nodup → A'.Nodup)
  | [], ts, A, h => by
    cases h
    exact ⟨B ++ [], .cons ht .nil, fun a ha => ha, fun h => h⟩
  | (g, x) :: r, [], A, h => by cases h
  | (g, x) :: r, t0 :: ts, A, h => by
    cases h with
    | @cons _ _ _ _ A1 A2 h0 hr =>
      unfold L2.putF putL
      by_cases e : g = f
      · subst e
        rw [if_pos rfl, if_pos (by simp)]
        refine ⟨B ++ A2, ?_, fun a ha => ?_, fun h => ?_⟩
        · show TIsL K G H (v :: r.map (·.2)) (if g = g then t :: ts else _) _
          rw [if_pos rfl]; exact .cons ht hr
        · rcases List.mem_append.mp ha with z | z
          · exact List.mem_append_left _ z
          · exact List.mem_append_right _ (List.mem_append_right _ z)
        · have h1 := (perm3 B A1 A2).nodup_iff.mp h
          exact (List.nodup_append.mp h1).2.1
      · rw [if_neg e]
        obtain ⟨A', a1, a2, a3⟩ := TIsL.putF ht hr
        have hmem : (f ∈ ((g, x) :: r).map (·.1)) ↔ f ∈ r.map (·.1) := by
          rw [List.map_cons, List.mem_cons]
          exact ⟨fun z => z.elim (fun z => absurd z.symm e) id, .inr⟩
        refine ⟨A1 ++ A', ?_, fun a ha => ?_, fun h => ?_⟩
        · unfold putL at a1
          by_cases hf : f ∈ r.map (·.1)
          · rw [if_pos hf] at a1
            rw [if_pos (hmem.mpr hf)]
            show TIsL K G H (x :: (L2.putF f v r).map (·.2)) (if g = f then t :: ts else t0 :: setL (r.map (·.1)) ts f t) _
            rw [if_neg e]; exact .cons h0 a1
          · rw [if_neg hf] at a1
            rw [if_neg fun z => hf (hmem.mp z)]
            exact .cons h0 a1
        · rcases List.mem_append.mp ha with z | z
          · exact List.mem_append_right _ (List.mem_append_left _ z)
          · rcases List.mem_append.mp (a2 a z) with z | z
            · exact List.mem_append_left _ z
            · exact List.mem_append_right _ (List.mem_append_right _ z)
        · have h1 := (perm3 B A1 A2).nodup_iff.mp h
          obtain ⟨b1, b2, b3⟩ := List.nodup_append.mp h1
          exact List.nodup_append.mpr ⟨b1, a3 b2, fun a ha b hb => b3 a ha b (a2 b hb)⟩
def putFld (C f : Str) (t : T) : T → Option T
  | .inst C' ns ts => if C' = C ∧ ns.length < 900 then some (.inst C' (putN ns f) (putL ns ts f t)) else none
  | _ => none
def dFld (i : Nat) (pa : Path) (C f : Str) (d : DE) : DS := fun env => (d env).bind fun t env => nxO ((getE env i pa).bind fun u => (putFld C f t u).map fun u' => setE env i pa u')
theorem SS.fld (cl : Cls X.K (He.ga X.K C)) (na : NoAttr X.K (He.ga X.K C) f) (hs : swapsWith value (some (.Attribute e f p2)) pos.line X.env = pure false) (hv : SE X W value dv) (hp : SPl X e i pa) : SS X W (.Assign [.Attribute e f p2] value pos) (dFld i pa C f dv) := fun F ps σ G H A D env I R P => by
  refine PS.go (ps_fld pe_run pe_run hs) (hv.seq I R P fun t env1 v G1 H1 A1 B1 s1 I1 i1 R1 P1 => ?_)
  cases q : getE env1 i pa with
  | none => rw [q] at P1; exact P1.elim
  | some u =>
    rw [q] at P1
    cases q2 : putFld C f t u with
    | none =>
      have : ((some u).bind fun u => (putFld C f t u).map fun u' => setE env1 i pa u') = none := by show (putFld C f t u).map _ = none; rw [q2]; rfl
      rw [this] at P1; exact P1.elim
    | some u' =>
      have : ((some u).bind fun u => (putFld C f t u).map fun u' => setE env1 i pa u') = some (setE env1 i pa u') := by show (putFld C f t u).map _ = _; rw [q2]; rfl
      rw [this] at P1
      obtain ⟨o, vu, B, C0, g1, g2, g3, g4, g5⟩ := I1.place R1.gh q
      refine hp σ H1 _ o vu g1 g2 ?_
      cases u with
      | inst C' ns ts =>
        have q2 : (if C' = C ∧ ns.length < 900 then some (T.inst C' (putN ns f) (putL ns ts f t)) else none) = some u' := q2
        by_cases hz : C' = C ∧ ns.length < 900
        · rw [if_pos hz] at q2
          cases q2
          obtain ⟨rfl, hl⟩ := hz
          cases g3 with
          | @inst a dx _ fs _ _ A0 ha hn r =>
            subst hn
            refine ⟨a, _, dx, fs, rfl, ha, cl, na, by rw [List.length_map] at hl; omega, ?_⟩
            have R2 : Rel F G1 H1 (B1 ++ ((a :: A0) ++ C0)) := R1.perm (List.Perm.append_left _ g4)
            have hB : ∀ b ∈ B1, b ≠ a := fun b hb z => R2.dj a (List.mem_append_left _ List.mem_cons_self) (z ▸ hb)
            have nd2 := (List.nodup_append.mp R2.nd).2.1
            have hA0 : ∀ b ∈ A0, b ≠ a := fun b hb z => (List.nodup_cons.mp (List.nodup_append.mp nd2).1).1 (z ▸ hb)
            have hC0 : ∀ b ∈ C0, b ≠ a := fun b hb z => (List.nodup_append.mp nd2).2.2 a List.mem_cons_self b hb z.symm
            obtain ⟨A', a1, a2, a3⟩ := TIsL.putF (f := f) i1 r
            have hA' : ∀ b ∈ A', b ≠ a := fun b hb => (List.mem_append.mp (a2 b hb)).elim (hB b) (hA0 b)
            have hT : TIs X.K G1 (upd H1 a (.ins (He.ga X.K C') dx (L2.putF f v fs))) (.ref a) (.inst C' (putN (fs.map (·.1)) f) (putL (fs.map (·.1)) ts f t)) (a :: A') :=
              .inst upd_same (putF_names f v fs) (a1.up (Same.refl _) (upd_off hA'))
            obtain ⟨A3, e3, p3⟩ := g5 rfl G1 _ _ _ (Same.refl G1) (upd_off hC0) hT
            have R3 : Rel F G1 (upd H1 a (.ins (He.ga X.K C') dx (L2.putF f v fs))) (B1 ++ ((a :: A0) ++ C0)) := R2.put (List.mem_append_right _ (List.mem_append_left _ List.mem_cons_self))
            refine P1 σ G1 _ A3 s1 e3 (Rel.perm ?_ p3.symm)
            refine R3.sub (fun b hb => ?_) ?_
            · rcases List.mem_append.mp hb with z | z
              · rcases List.mem_cons.mp z with z | z
                · exact List.mem_append_right _ (List.mem_append_left _ (z ▸ List.mem_cons_self))
                · rcases List.mem_append.mp (a2 b z) with z | z
                  · exact List.mem_append_left _ z
                  · exact List.mem_append_right _ (List.mem_append_left _ (List.mem_cons_of_mem _ z))
              · exact List.mem_append_right _ (List.mem_append_right _ z)
            · have n1 : (a :: (B1 ++ A0)).Nodup := by
                refine List.nodup_cons.mpr ⟨fun z => ?_, ?_⟩
                · rcases List.mem_append.mp z with z | z
                  · exact hB a z rfl
                  · exact hA0 a z rfl
                · have z := R2.nd
                  have z2 : (B1 ++ (a :: A0)).Nodup := by
                    rw [← List.append_assoc] at z
                    exact (List.nodup_append.mp z).1
                  exact z2.sublist (List.Sublist.append_left (List.sublist_cons_self _ _) _)
              have nB : ∀ b ∈ B1, b ∉ C0 := fun b hb z => R2.dj b (List.mem_append_right _ z) hb
              refine List.nodup_append.mpr ⟨List.nodup_cons.mpr ⟨fun z => hA' a z rfl, a3 (List.nodup_cons.mp n1).2⟩, (List.nodup_append.mp nd2).2.1, fun b hb c hc z => ?_⟩
              subst z
              rcases List.mem_cons.mp hb with z | z
              · exact hC0 b hc z
              · rcases List.mem_append.mp (a2 b z) with z | z
                · exact nB b z hc
                · exact (List.nodup_append.mp nd2).2.2 b (List.mem_cons_of_mem _ z) b hc rfl
        · rw [if_neg hz] at q2; cases q2
      | _ => cases q2
end
end Dn

namespace Dn
open PySem PySem.Spec PyProof.Rows L2
/-! ### append, extend, pop -/
section
variable {X : Cx} {W : WX} {F : Fm} {ps : List V} {σ : L2.St} {G H : Hp} {A B : List Addr} {env : Ev} {e e2 e3 tg value : Expr} {es : List Expr} {x m f C : Str} {p p2 pos apos cpos tp : Pos} {i j : Nat} {pa : Path} {d dv : DE} {dk : Ev → Rs D}
abbrev Few (X : Cx) (cpos : Pos) (e : Expr) (es : List Expr) : Prop := ((backTo cpos (starEach (e :: es) X.env)).all (fun x => !x.1) && (backToKw cpos (keywordEach [] X.env)).all (fun x => x.1.isSome)
      && decide ((e :: es).length + ([] : List Keyword).length + (if ([] : List Keyword).isEmpty then 0 else 1) < 30)) = true
def appT (x : D) : T → Option T
  | .lst ds => if ds.length < 1000000 then some (.lst (ds ++ [x])) else none
  | _ => none
def extT (x : D) : T → Option T
  | .lst ds => match x with
    | .list es => if ds.length + es.length < 1000000 then some (.lst (ds ++ es)) else none
    | _ => none
  | _ => none
/-- name.append(e), name.extend(e) -/
def isLst : Option T → Bool
  | some (.lst _) => true
  | _ => false
def dMut (o : D → T → Option T) (i : Nat) (d : DE) : DE := fun env => if isLst (getE env i []) = true then (d env).bindD fun x env => match (getE env i []).bind (o x) with
    | some u => .ok (.d .none) (setE env i [] u)
    | none => .stuck else .stuck
theorem isLst_of {o : Option T} (h : isLst o = true) : ∃ ds, o = some (.lst ds) := by
  cases o with
  | none => cases h
  | some t =>
    cases t with
    | lst ds => exact ⟨ds, rfl⟩
    | _ => cases h
theorem ty_lst {K : PySem.W.Frag} {o : V} {ds : List D} (h : TIs K G H o (.lst ds) B) : tyV K "list" o H := by
  cases h with
  | lst h r => exact .inl ⟨rfl, _, SqL.of h⟩
theorem mut_run {o : D → T → Option T} {rr : V → List V → Hp → VK → Prop} (hp : SPl X e i []) (h : SE X W e2 d)
    (ho : ∀ (F : Fm) (G H : Hp) (A B C0 : List Addr) (w v : V) (ds : List D) (x : D) (u : T) (Q : VK), Rel F G H A → A.Perm (B ++ C0) → TIs X.K G H w (.lst ds) B → Is X.K G v x → o x (.lst ds) = some u → (∀ a o', a ∈ B → TIs X.K G (upd H a o') w u B → Q .non (upd H a o')) → rr w [v] H Q)
    (hn : ∀ x t u, o x t = some u → ∃ ds, t = .lst ds) {Q : VK} (I : EvIs X.K G H ps σ env A) (R : Rel F G H A) (P : (dMut o i d env).post (okE X F ps σ G Q) (exP X W F ps G)) :
    RunE X e σ H fun w H1 => tyV X.K "list" w H1 ∧ RunE X e2 σ H1 fun v H2 => rr w [v] H2 Q := by
  unfold dMut at P
  by_cases hl : isLst (getE env i []) = true
  · rw [if_pos hl] at P
    obtain ⟨ds0, q0⟩ := isLst_of hl
    obtain ⟨o', vu, B0, C0, g1, g2, g3, g4, g5⟩ := I.place R.gh q0
    refine hp σ H _ o' vu g1 g2 ?_
    cases g2
    refine ⟨ty_lst g3, h.seqD I R P fun x env1 v G1 H1 A1 s1 I1 i1 R1 P1 => ?_⟩
    cases q : (getE env1 i []).bind (o x) with
    | none => rw [q] at P1; exact P1.elim
    | some u =>
      rw [q] at P1
      obtain ⟨t, e1, e2'⟩ := Option.bind_eq_some_iff.mp q
      obtain ⟨ds, rfl⟩ := hn x t u e2'
      obtain ⟨o'', vu', B1, C1, k1, k2, k3, k4, k5⟩ := I1.place R1.gh e1
      rw [g1] at k1
      cases k1
      cases k2
      refine ho F G1 H1 A1 B1 C1 _ v ds x u Q R1 k4 k3 i1 e2' fun a w ha hT => ?_
      obtain ⟨A3, I3, R3⟩ := place_put R1 k4 ha hT (k5 rfl)
      exact P1 .non G1 _ A3 [] s1 I3 (.d .non) R3
  · rw [if_neg hl] at P; exact P.elim
theorem SE.append (hb : attributeBase e "append" X.env (eval e X.env) = eval e X.env) (hfew : Few X cpos e2 []) (hl : (apos.endLine == cpos.line) = true) (hs : starEach [e2] X.env = (false, eval e2 X.env) :: starEach [] X.env) (hpl : (backTo cpos (starEach [] X.env)).any (·.1) = false)
    (hp : SPl X e i []) (h : SE X W e2 d) : SE X W (.Call (.Attribute e "append" apos) [e2] [] cpos) (dMut appT i d) := fun F ps σ G H A Q env I R P =>
  PE.go (pe_bm PySem.F.plainAttrs_list PySem.F.slot_list_append PySem.F.type_list_append mt_append pe_run (pa_cons pe_run pa_nil hs) hb hfew hl hs hpl) (mut_run (rr := rAppend) hp h (fun F G H A B C0 w v ds x u Q R hpm ht hi e k => by
    have e : (if ds.length < 1000000 then some (T.lst (ds ++ [x])) else none) = some u := e
    by_cases hz : ds.length < 1000000
    · rw [if_pos hz] at e
      cases e
      cases ht with
      | @lst a xs _ ha r => exact ⟨a, xs, v, rfl, rfl, ha, by rw [r.length]; exact Nat.lt_trans hz sqLine, k a _ List.mem_cons_self (.lst upd_same (r.snoc hi))⟩
    · rw [if_neg hz] at e; cases e) (fun x t u e => by cases t <;> first | exact ⟨_, rfl⟩ | cases e) I R P)
theorem SE.extend (hb : attributeBase e "extend" X.env (eval e X.env) = eval e X.env) (hfew : Few X cpos e2 []) (hl : (apos.endLine == cpos.line) = true) (hs : starEach [e2] X.env = (false, eval e2 X.env) :: starEach [] X.env) (hpl : (backTo cpos (starEach [] X.env)).any (·.1) = false)
    (hp : SPl X e i []) (h : SE X W e2 d) : SE X W (.Call (.Attribute e "extend" apos) [e2] [] cpos) (dMut extT i d) := fun F ps σ G H A Q env I R P =>
  PE.go (pe_bm PySem.F.plainAttrs_list PySem.F.slot_list_extend PySem.F.type_list_extend mt_extend pe_run (pa_cons pe_run pa_nil hs) hb hfew hl hs hpl) (mut_run (rr := rExtend) hp h (fun F G H A B C0 w v ds x u Q R hpm ht hi e k => by
    cases x with
    | list es' =>
      have e : (if ds.length + es'.length < 1000000 then some (T.lst (ds ++ es')) else none) = some u := e
      by_cases hz : ds.length + es'.length < 1000000
      · rw [if_pos hz] at e
        cases e
        cases ht with
        | @lst a xs _ ha r =>
          obtain ⟨b, zs, rfl, hb, rb⟩ := hi.listE
          exact ⟨a, b, xs, zs, rfl, rfl, ha, R.gh _ _ hb, by rw [r.length, rb.length]; exact Nat.le_of_lt (Nat.lt_trans hz sqLine), k a _ List.mem_cons_self (.lst upd_same (r.app rb))⟩
      · rw [if_neg hz] at e; cases e
    | _ => cases e) (fun x t u e => by cases t <;> first | exact ⟨_, rfl⟩ | cases e) I R P)
/-- place.pop() -/
def dPop (i : Nat) (pa : Path) : DE := fun env => match getE env i pa with
  | some (.lst ds) => match ds[ds.length - 1]? with
    | some x => .ok (.d x) (setE env i pa (.lst ds.dropLast))
    | none => .stuck
  | _ => .stuck
theorem isL_dropLast {K : PySem.W.Frag} {xs : List V} {ds : List D} (r : IsL K G xs ds) : IsL K G xs.dropLast ds.dropLast := by
  rw [List.dropLast_eq_take, List.dropLast_eq_take, r.length]
  exact r.take _
theorem SE.pop (hb : attributeBase e "pop" X.env (eval e X.env) = eval e X.env) (hl : (apos.endLine == cpos.line) = true) (hp : SPl X e i pa) : SE X W (.Call (.Attribute e "pop" apos) [] [] cpos) (dPop i pa) := fun F ps σ G H A Q env I R P => by
  refine PE.go (pe_bm0 PySem.F.plainAttrs_list PySem.F.slot_list_pop PySem.F.type_list_pop mt_pop pe_run hb hl) ?_
  unfold dPop at P
  cases q : getE env i pa with
  | none => rw [q] at P; exact P.elim
  | some t =>
    rw [q] at P
    cases t with
    | lst ds =>
      dsimp only at P
      cases q2 : ds[ds.length - 1]? with
      | none => rw [q2] at P; exact P.elim
      | some x =>
        rw [q2] at P
        obtain ⟨o, vu, B, C0, g1, g2, g3, g4, g5⟩ := I.place R.gh q
        refine hp σ H _ o vu g1 g2 ⟨ty_lst g3, ?_⟩
        cases g3 with
        | @lst a xs _ ha r =>
          obtain ⟨v, ev, iv⟩ := r.at q2
          refine ⟨a, xs, v, rfl, rfl, ha, by rw [r.length]; exact ev, ?_⟩
          obtain ⟨A3, I3, R3⟩ := place_put (o' := .lst xs.dropLast) R g4 List.mem_cons_self (.lst upd_same (isL_dropLast r)) (g5 rfl)
          exact P v G _ A3 [] (Same.refl G) I3 (.d iv) R3
    | _ => exact P.elim
/-- place.append(name), the name data -/
def SQI (X : Cx) (e : Expr) (f : Ev → Option D) : Prop := ∀ F ps σ G H A Q env y, EvIs X.K G H ps σ env A → Rel F G H A → f env = some y → (∀ k, Is X.K G k y → Q k H) → RunE X e σ H Q
def dSlot (i : Nat) : Ev → Option D := fun env => match treeS (getS env i) with
  | some (.d x) => some x
  | _ => none
theorem SQI.name (hN : X.N[i]? = some x) (hv : visB X.env.scope x = true) (hd : (x == ("__debug__" : Str)) = false) (hcd : (x == ("__classdict__" : Str)) = false) : SQI X (.Name x pos) (dSlot i) := fun F ps σ G H A Q env y I R q k => by
  unfold dSlot at q
  cases q0 : treeS (getS env i) with
  | none => rw [q0] at q; cases q
  | some t =>
    rw [q0] at q
    cases t with
    | d z =>
      cases q
      obtain ⟨v, B, C, h1, h2, _, _⟩ := I.tree q0
      cases h2 with
      | d h2 => exact PE.go (pe_var hN (vis_of hv) hd hcd) ⟨v, h1, k v h2⟩
    | _ => cases q
def dAppQ (i : Nat) (pa : Path) (f : Ev → Option D) : DE := fun env => match (f env).bind fun x => (getE env i pa).bind (appT x) with
  | some u => .ok (.d .none) (setE env i pa u)
  | none => .stuck
theorem SE.appendQ {f : Ev → Option D} (hb : attributeBase e "append" X.env (eval e X.env) = eval e X.env) (hfew : Few X cpos e2 []) (hl : (apos.endLine == cpos.line) = true) (hs : starEach [e2] X.env = (false, eval e2 X.env) :: starEach [] X.env) (hpl : (backTo cpos (starEach [] X.env)).any (·.1) = false)
    (hp : SPl X e i pa) (h : SQI X e2 f) : SE X W (.Call (.Attribute e "append" apos) [e2] [] cpos) (dAppQ i pa f) := fun F ps σ G H A Q env I R P => by
  refine PE.go (pe_bm PySem.F.plainAttrs_list PySem.F.slot_list_append PySem.F.type_list_append mt_append pe_run (pa_cons pe_run pa_nil hs) hb hfew hl hs hpl) ?_
  unfold dAppQ at P
  cases q : (f env).bind fun x => (getE env i pa).bind (appT x) with
  | none => rw [q] at P; exact P.elim
  | some u =>
    rw [q] at P
    obtain ⟨x, e1, e2'⟩ := Option.bind_eq_some_iff.mp q
    obtain ⟨t, e3, e4⟩ := Option.bind_eq_some_iff.mp e2'
    cases t with
    | lst ds =>
      have e4 : (if ds.length < 1000000 then some (T.lst (ds ++ [x])) else none) = some u := e4
      by_cases hz : ds.length < 1000000
      · rw [if_pos hz] at e4
        cases e4
        obtain ⟨o, vu, B, C0, g1, g2, g3, g4, g5⟩ := I.place R.gh e3
        refine hp σ H _ o vu g1 g2 ⟨ty_lst g3, h F ps σ G H A _ env x I R e1 fun v hi => ?_⟩
        cases g3 with
        | @lst a xs _ ha r =>
          refine ⟨a, xs, v, rfl, rfl, ha, by rw [r.length]; exact Nat.lt_trans hz sqLine, ?_⟩
          obtain ⟨A3, I3, R3⟩ := place_put (o' := .lst (xs ++ [v])) R g4 List.mem_cons_self (.lst upd_same (r.snoc hi)) (g5 rfl)
          exact P .non G _ A3 [] (Same.refl G) I3 (.d .non) R3
      · rw [if_neg hz] at e4; cases e4
    | _ => cases e4
end
/-! ### methods, properties, classes -/
section
variable {X : Cx} {W : WX} {e o : Expr} {es : List Expr} {pos p apos cpos : Pos} {x m C : Str} {k n i : Nat} {dvs : List V} {qs : List Str} {Fn' : Fn} {ds : Ev → Rs (List D)} {d : DE} {pl : Sem Bool} {pa : Path}
/-- the instance that a method is called of: it has no attribute of that name -/
def instOk (C m : Str) : D → Bool
  | .inst C' ns _ => decide (C' = C) && decide (m ∉ ns)
  | _ => false
theorem not_lookup {fs : List (Str × V)} {m : Str} (h : m ∉ fs.map (·.1)) : fs.lookup m = none := by
  induction fs with
  | nil => rfl
  | cons p fs ih =>
    obtain ⟨n, v⟩ := p
    rw [List.map_cons, List.mem_cons] at h
    have hb : (m == n) = false := beq_eq_false_iff_ne.mpr fun z => h (.inl z)
    rw [List.lookup_cons, hb]
    exact ih fun z => h (.inr z)
theorem instOk_is {K : PySem.W.Frag} {G : Hp} {v : V} {y : D} (h : Is K G v y) (e : instOk C m y = true) : ∃ a dx fs, v = .ref a ∧ G a = some (.ins (He.ga K C) dx fs) ∧ fs.lookup m = none := by
  cases y with
  | inst C' ns ds =>
    obtain ⟨e1, e2⟩ := (Bool.and_eq_true _ _).mp e
    have e1 := of_decide_eq_true e1
    have e2 := of_decide_eq_true e2
    subst e1
    obtain ⟨a, dx, fs, rfl, ha, hn, r⟩ := h.instE
    exact ⟨a, dx, fs, rfl, ha, not_lookup (hn ▸ e2)⟩
  | _ => cases e
/-- o.m(e, ..), data alone -/
def dMethP (C m : Str) (Fn' : Fn) (n : Nat) (dvs : List V) (d : DE) (ds : Ev → Rs (List D)) : DE := fun env => (d env).bindD fun y env => if instOk C m y = true then (ds env).bind fun xs env => callP Fn' n dvs (y :: xs) env else .stuck
abbrev MethEq (X : Cx) (o : Expr) (m : Str) (apos cpos : Pos) (es : List Expr) (pl : Sem Bool) : Prop := eval (.Call (.Attribute o m apos) es [] cpos) X.env = (do
      let ov ← eval o X.env
      standAt apos.atName
      let (f, first) ← holding [ov] (getMethod ov m pl)
      callWith cpos f first (backTo cpos (starEach es X.env)) (backToKw cpos (keywordEach [] X.env)))
theorem SE.methP (tk : Takes X W) (hr : Room k X.A) (hgd : X.A.guards = some []) (D' : DefM X.prog X.w X.K X.mg X.base C m k qs dvs (spF X.K (List.replicate n false) Fn')) (he : starEach (e :: es) X.env = (false, eval e X.env) :: starEach es X.env) (hpl : (backTo cpos (starEach es X.env)).any (·.1) = false)
    (ht : MethEq X o m apos cpos (e :: es) pl) (h : SE X W o d) (ha : SA X W (e :: es) ds) : SE X W (.Call (.Attribute o m apos) (e :: es) [] cpos) (dMethP C m Fn' n dvs d ds) := fun F ps σ G H A Q env I R P => .of fun pins s J => by
  let K1 : VK := fun v H1 => ∀ (u : Value) (s1 : Shared), Inv X pins σ H1 s1 → RelV v u → wpAny (model X.prog X.w) X.A (getMethod u m pl) (fun z s2 => wpAny (model X.prog X.w) X.A (callWith cpos z.1 z.2 (backTo cpos (starEach (e :: es) X.env)) (backToKw cpos (keywordEach [] X.env))) (EP X pins σ Q) X.xe s2) X.xe s1
  have main : RunE X o σ H K1 := h.seqD I R P fun y env1 v G1 H1 A1 s1 I1 i1 R1 P1 => by
    intro u sh J1 ru
    by_cases hz : instOk C m y = true
    · rw [if_pos hz] at P1
      obtain ⟨a, dx, fs, rfl, ha1, hl⟩ := instOk_is i1 hz
      cases ru
      refine getmeth_ok J1 (R1.gh _ _ ha1) D'.cl D'.mt hl ?_
      refine PySem.W.callWith_K (first := [.ref a]) (h₀ := X.base) J1.ok.mod.kin D'.mt.kp (thn ((ha.seq (K1 := fun vs H2 => RunCs X (.ref (He.ma X.K (He.ga X.K C) m)) (.ref a :: vs) σ H2 Q) I1 R1 P1 ?_).r cpos pins sh J1) fun us s2 ⟨vs, H2, J2, r, q⟩ => ⟨J2.kIn, q pins s2 (.ref a :: us) J2 (.cons rfl r)⟩) he hpl
      intro xs env2 vs G2 H2 A2 s2 I2 i2 R2 P2
      exact run_cs D'.c hr hgd tk (sp_pure I2 R2 (.cons (i1.up s2) i2) (callP_imp I2 R2 (s1.trans s2) P2))
    · rw [if_neg hz] at P1; exact P1.elim
  exact PySem.W.methodCall_KW (pl := pl) (thn (main.r pins s J) fun u s1 ⟨v, H1, J1, r, q⟩ => q u s1 J1 r) ht
end
end Dn

namespace Dn
open PySem PySem.Spec PyProof.Rows L2
/-! ### calls that are given own variables -/
/-- an argument: data, or the own variable at a slot -/
abbrev RA := D ⊕ Nat
def IsR (K : PySem.W.Frag) (G : Hp) (σ : L2.St) (v : V) : RA → Prop
  | .inl d => Is K G v d
  | .inr i => σ[i]? = some (some v)
def IsRs (K : PySem.W.Frag) (G : Hp) (σ : L2.St) : List V → List RA → Prop
  | [], [] => True
  | v :: vs, a :: as => IsR K G σ v a ∧ IsRs K G σ vs as
  | _, _ => False
def fetch (env : Ev) : List RA → Option (List T)
  | [] => some []
  | .inl d :: as => (fetch env as).map (.d d :: ·)
  | .inr i :: as => (treeS (getS env i)).bind fun t => (fetch env as).map (t :: ·)
def owns : List RA → List Nat
  | [] => []
  | .inl _ :: as => owns as
  | .inr i :: as => i :: owns as
def maskR : List RA → List Bool
  | [] => []
  | .inl _ :: as => false :: maskR as
  | .inr _ :: as => true :: maskR as
def putB (env : Ev) : List RA → List T → Ev
  | .inl _ :: as, bs => putB env as bs
  | .inr i :: as, b :: bs => setS (putB env as bs) i (reS (getS (putB env as bs) i) b)
  | _, _ => env
theorem getS_setS_ne : ∀ {env : Ev} {i j : Nat} {s : Slot}, i ≠ j → getS (setS env i s) j = getS env j
  | [], _, _, _, _ => rfl
  | _ :: _, 0, 0, _, h => absurd rfl h
  | _ :: _, 0, _ + 1, _, _ => rfl
  | _ :: _, _ + 1, 0, _, _ => rfl
  | _ :: r, i + 1, j + 1, s, h => getS_setS_ne (env := r) fun e => h (congrArg (· + 1) e)
theorem setS_comm : ∀ {env : Ev} {i j : Nat} {s u : Slot}, i ≠ j → setS (setS env i s) j u = setS (setS env j u) i s
  | [], _, _, _, _, _ => rfl
  | _ :: _, 0, 0, _, _, h => absurd rfl h
  | _ :: _, 0, _ + 1, _, _, _ => rfl
  | _ :: _, _ + 1, 0, _, _, _ => rfl
  | x :: r, i + 1, j + 1, s, u, h => congrArg (x :: ·) (setS_comm (env := r) fun e => h (congrArg (· + 1) e))
theorem setS_setS : ∀ {env : Ev} {i : Nat} {s u : Slot}, setS (setS env i s) i u = setS env i u
  | [], _, _, _ => rfl
  | _ :: _, 0, _, _ => rfl
  | x :: r, i + 1, s, u => congrArg (x :: ·) (setS_setS (env := r))
theorem getS_setS : ∀ {env : Ev} {i : Nat} {s t : Slot}, getS env i = t → t ≠ .none → getS (setS env i s) i = s
  | [], _, _, _, h, k => absurd h.symm k
  | _ :: _, 0, _, _, _, _ => rfl
  | _ :: r, i + 1, s, t, h, k => getS_setS (env := r) h k
theorem fetch_set {env : Ev} {i : Nat} {s : Slot} : ∀ {as : List RA}, i ∉ owns as → fetch (setS env i s) as = fetch env as
  | [], _ => rfl
  | .inl d :: as, h => by unfold fetch; rw [fetch_set (as := as) h]
  | .inr j :: as, h => by
    have h1 : i ≠ j := fun e => h (e ▸ List.mem_cons_self)
    unfold fetch
    rw [fetch_set (as := as) (fun z => h (List.mem_cons_of_mem _ z)), getS_setS_ne h1]
theorem getS_putB {env : Ev} {i : Nat} : ∀ {as : List RA} {bs : List T}, i ∉ owns as → getS (putB env as bs) i = getS env i
  | [], _, _ => rfl
  | .inl d :: as, bs, h => getS_putB (as := as) (bs := bs) h
  | .inr j :: as, [], h => rfl
  | .inr j :: as, b :: bs, h => by
    have h1 : j ≠ i := fun e => h (e ▸ List.mem_cons_self)
    unfold putB
    rw [getS_setS_ne h1]
    exact getS_putB (as := as) fun z => h (List.mem_cons_of_mem _ z)
theorem putB_set {env : Ev} {i : Nat} {s u : Slot} : ∀ {as : List RA} {bs : List T}, i ∉ owns as → setS (putB (setS env i s) as bs) i u = setS (putB env as bs) i u
  | [], _, _ => setS_setS
  | .inl d :: as, bs, h => putB_set (as := as) (bs := bs) h
  | .inr j :: as, [], h => setS_setS
  | .inr j :: as, b :: bs, h => by
    have h1 : j ≠ i := fun e => h (e ▸ List.mem_cons_self)
    have h2 : i ∉ owns as := fun z => h (List.mem_cons_of_mem _ z)
    unfold putB
    rw [setS_comm h1, setS_comm (env := putB env as bs) h1, putB_set (as := as) h2]
    congr 1
    congr 1
    have e1 := getS_setS_ne (env := putB (setS env i s) as bs) (s := u) (Ne.symm h1)
    have e2 := getS_setS_ne (env := putB env as bs) (s := u) (Ne.symm h1)
    rw [← e1, putB_set (as := as) h2, e2]
theorem reS_re {s : Slot} {t u : T} : reS (reS s t) u = reS s u := by cases s <;> rfl
theorem treeS_re {s : Slot} {t u : T} (h : treeS s = some t) : treeS (reS s u) = some u := by
  cases s with
  | none => cases h
  | loc x => rfl
  | par x => rfl
section
variable {K : PySem.W.Frag} {G H : Hp} {ps : List V} {σ : L2.St}
theorem fetch_run : ∀ {as : List RA} {vs : List V} {ts : List T} {env : Ev} {A : List Addr}, EvIs K G H ps σ env A → IsRs K G σ vs as → fetch env as = some ts → (owns as).Nodup → ∃ B C, TIsL K G H vs ts B ∧ A.Perm (B ++ C) ∧
    ∀ G' H' bs B', Same G G' → (∀ a ∈ C, H' a = H a) → TIsL K G' H' (maskd (maskR as) vs) bs B' → ∃ A', EvIs K G' H' ps σ (putB env as bs) A' ∧ A'.Perm (B' ++ C)
  | [], [], ts, env, A, I, _, e, _ => by
    cases e
    refine ⟨[], A, .nil, List.Perm.refl _, fun G' H' bs B' s k t => ?_⟩
    cases t
    exact ⟨A, I.up s k, List.Perm.refl _⟩
  | [], _ :: _, _, _, _, _, h, _, _ => h.elim
  | _ :: _, [], _, _, _, _, h, _, _ => h.elim
  | .inl d :: as, v :: vs, ts, env, A, I, h, e, nd => by
    obtain ⟨ts', e1, rfl⟩ := Option.map_eq_some_iff.mp (show (fetch env as).map (.d d :: ·) = some ts from e)
    obtain ⟨B, C, h1, h2, h3⟩ := fetch_run I h.2 e1 nd
    exact ⟨B, C, TIsL.cons (A := []) (.d h.1) h1, h2, h3⟩
  | .inr i :: as, v :: vs, ts, env, A, I, h, e, nd => by
    obtain ⟨t, e0, e1⟩ := Option.bind_eq_some_iff.mp (show (treeS (getS env i)).bind (fun t => (fetch env as).map (t :: ·)) = some ts from e)
    obtain ⟨ts', e2, rfl⟩ := Option.map_eq_some_iff.mp e1
    obtain ⟨hni, nd2⟩ := List.nodup_cons.mp nd
    obtain ⟨w, B1, C1, h1, h2, h3, h4⟩ := I.tree e0
    have hw : w = v := by
      have := h1.symm.trans h.1
      cases this; rfl
    subst hw
    obtain ⟨A1, I1, p1⟩ := h4 G H (.d (.val w)) [] (Same.refl G) (fun _ _ => rfl) (.d (.val w))
    obtain ⟨B2, C2, g1, g2, g3⟩ := fetch_run I1 h.2 ((fetch_set hni).trans e2) nd2
    refine ⟨B1 ++ B2, C2, .cons h2 g1, ?_, fun G' H' bs B' s k t => ?_⟩
    · rw [List.append_assoc]
      exact h3.trans (List.Perm.append_left B1 (p1.symm.trans g2))
    · cases t with
      | @cons _ _ b bs Bb Bs tb ts =>
        obtain ⟨A2, I2, p2⟩ := g3 G' H' bs Bs s k ts
        have e5 : getS (putB (setS env i (reS (getS env i) (.d (.val w)))) as bs) i = reS (getS env i) (.d (.val w)) := by
          rw [getS_putB hni]
          refine getS_setS rfl fun z => ?_
          rw [z] at e0; cases e0
        have e6 : treeS (getS (putB (setS env i (reS (getS env i) (.d (.val w)))) as bs) i) = some (.d (.val w)) := by
          rw [e5]; exact treeS_re e0
        obtain ⟨w', B3, C3, k1, k2, k3, k4⟩ := I2.tree e6
        have hw : w' = w := by
          have := k1.symm.trans h1
          cases this; rfl
        subst hw
        cases k2 with
        | d k2 =>
          obtain ⟨A4, I4, p4⟩ := k4 G' H' b Bb (Same.refl G') (fun _ _ => rfl) tb
          refine ⟨A4, ?_, ?_⟩
          · rw [e5, reS_re, putB_set hni] at I4
            unfold putB
            rw [getS_putB hni]
            exact I4
          · rw [List.append_assoc]
            exact p4.trans (List.Perm.append_left Bb (k3.symm.trans p2))
theorem isRs_len {as : List RA} : ∀ {vs : List V}, IsRs K G σ vs as → vs.length = as.length := by
  induction as with
  | nil => intro vs h; cases vs with
    | nil => rfl
    | cons _ _ => exact h.elim
  | cons a as ih => intro vs h; cases vs with
    | nil => exact h.elim
    | cons _ _ => exact congrArg (· + 1) (ih h.2)
theorem isRs_up {G' : Hp} (s : Same G G') : ∀ {as : List RA} {vs : List V}, IsRs K G σ vs as → IsRs K G' σ vs as
  | [], [], _ => trivial
  | [], _ :: _, h => h.elim
  | _ :: _, [], h => h.elim
  | .inl d :: as, v :: vs, h => ⟨Is.up s h.1, isRs_up s h.2⟩
  | .inr i :: as, v :: vs, h => ⟨h.1, isRs_up s h.2⟩
theorem maskR_len : ∀ {as : List RA}, (maskR as).length = as.length
  | [] => rfl
  | .inl _ :: as => congrArg (· + 1) (maskR_len (as := as))
  | .inr _ :: as => congrArg (· + 1) (maskR_len (as := as))
theorem fetch_ok : ∀ {as : List RA} {ts : List T} {env : Ev}, fetch env as = some ts → mOk (maskR as) ts
  | [], _, _, e => by cases e; trivial
  | .inl d :: as, ts, env, e => by
    obtain ⟨ts', e1, rfl⟩ := Option.map_eq_some_iff.mp (show (fetch env as).map (.d d :: ·) = some ts from e)
    exact ⟨.inr rfl, fetch_ok e1⟩
  | .inr i :: as, ts, env, e => by
    obtain ⟨t, e0, e1⟩ := Option.bind_eq_some_iff.mp (show (treeS (getS env i)).bind (fun t => (fetch env as).map (t :: ·)) = some ts from e)
    obtain ⟨ts', e2, rfl⟩ := Option.map_eq_some_iff.mp e1
    exact ⟨.inl rfl, fetch_ok e2⟩
theorem mOk_app : ∀ {ms ms' : List Bool} {ts ts' : List T}, mOk ms ts → mOk ms' ts' → mOk (ms ++ ms') (ts ++ ts')
  | [], _, [], _, _, h => h
  | [], _, _ :: _, _, h, _ => h.elim
  | _ :: _, _, [], _, h, _ => h.elim
  | _ :: _, _, _ :: _, _, h, k => ⟨h.1, mOk_app h.2 k⟩
theorem maskd_app {α : Type} : ∀ {ms ms' : List Bool} {vs us : List α}, ms.length = vs.length → maskd (ms ++ ms') (vs ++ us) = maskd ms vs ++ maskd ms' us
  | [], _, [], _, _ => rfl
  | [], _, _ :: _, _, h => by cases h
  | _ :: _, _, [], _, h => by cases h
  | true :: ms, ms', v :: vs, us, h => congrArg (v :: ·) (maskd_app (by simpa using h))
  | false :: ms, ms', v :: vs, us, h => maskd_app (ms := ms) (by simpa using h)
theorem TIsL.app {vs us : List V} {ts us' : List T} {A B : List Addr} (h : TIsL K G H vs ts A) (r : TIsL K G H us us' B) : TIsL K G H (vs ++ us) (ts ++ us') (A ++ B) := by
  induction vs generalizing ts A with
  | nil => cases h; exact r
  | cons v vs ih =>
    cases h with
    | cons h t => rw [List.append_assoc]; exact .cons h (ih t)
end
/-- a call with own variables -/
def callO (mask : List Bool) (Fn' : Fn) (dvs : List V) (as : List RA) (env : Ev) : Rs T := if maskR as ++ List.replicate dvs.length false = mask ∧ (owns as).Nodup then (match fetch env as with
  | some ts => (match Fn' (ts ++ (dvs.map vD).map .d) with
    | .ok t back => .ok t (putB env as back)
    | .exc c fs back => .exc c fs (putB env as back)
    | .stuck => .stuck)
  | none => .stuck) else .stuck
section
variable {X : Cx} {W : WX} {F : Fm} {ps : List V} {σ : L2.St} {G G0 H : Hp} {A : List Addr} {env : Ev} {k n i : Nat} {dvs : List V} {vs : List V} {as : List RA} {Q : VK} {Fn' : Fn} {mask : List Bool}
theorem sp_own (I : EvIs X.K G H ps σ env A) (R : Rel F G H A) (i : IsRs X.K G σ vs as) (P : (callO mask Fn' dvs as env).post (okE X F ps σ G Q) (exP X W F ps G)) : spF X.K mask Fn' (vs ++ dvs) H Q (fun cls dx H' => W cls dx σ H') := by
  unfold callO at P
  by_cases hl : maskR as ++ List.replicate dvs.length false = mask ∧ (owns as).Nodup
  · rw [if_pos hl] at P
    obtain ⟨hm, hn⟩ := hl
    cases q : fetch env as with
    | none => rw [q] at P; exact P.elim
    | some ts =>
      rw [q] at P
      obtain ⟨B, C, h1, h2, h3⟩ := fetch_run I i q hn
      have R2 := R.perm h2
      have hdv : TIsL X.K G H dvs ((dvs.map vD).map .d) [] := isL_d (isL_vD dvs)
      have hlen : (maskR as).length = vs.length := by rw [maskR_len, isRs_len i]
      have hmd : maskd mask (vs ++ dvs) = maskd (maskR as) vs := by
        rw [← hm, maskd_app hlen, maskd_d, List.append_nil]
      have hok : mOk (List.replicate dvs.length false) ((dvs.map vD).map T.d) := by
        have := mOk_d (dvs.map vD)
        rwa [List.length_map] at this
      refine ⟨ts ++ (dvs.map vD).map .d, B, G, by simpa using h1.app hdv, hm ▸ mOk_app (fetch_ok q) hok, R.gh, R2.left.nd, fun a ha => ⟨(R2.left.fp a ha).1, (R2.left.fp a ha).2.1⟩, ?_⟩
      rw [hmd]
      dsimp only at P
      cases q2 : Fn' (ts ++ (dvs.map vD).map .d) with
      | stuck => rw [q2] at P; exact P.elim
      | ok t back =>
        rw [q2] at P
        intro v G' H' A' B' r t' tb
        obtain ⟨r2, s2, k2⟩ := Rel.back (B := B) (A := C) R2 r
        obtain ⟨A2, I2, p2⟩ := h3 G' H' back A' s2 k2 tb
        refine P v G' H' A2 B' s2 I2 t' (r2.perm ?_)
        rw [List.append_assoc]
        exact List.Perm.append_left B' p2.symm
      | exc c fs back =>
        rw [q2] at P
        intro cls dx G' H' A' r tb x
        obtain ⟨r2, s2, k2⟩ := Rel.back (B := B) (A := C) R2 r
        obtain ⟨A2, I2, p2⟩ := h3 G' H' back A' s2 k2 tb
        exact P cls dx σ G' H' A2 s2 I2 (r2.perm p2.symm) x
  · rw [if_neg hl] at P; exact P.elim
end
def okR (X : Cx) (F : Fm) (ps : List V) (σ : L2.St) (G : Hp) (Q : List V → Hp → Prop) (as : List RA) (env' : Ev) : Prop :=
  ∀ vs G' H' A', Same G G' → EvIs X.K G' H' ps σ env' A' → IsRs X.K G' σ vs as → Rel F G' H' A' → Q vs H'
def SR (X : Cx) (W : WX) (es : List Expr) (d : Ev → Rs (List RA)) : Prop :=
  ∀ F ps σ G H A Q env, EvIs X.K G H ps σ env A → Rel F G H A → (d env).post (okR X F ps σ G Q) (exP X W F ps G) → RunA X es σ H Q
section
variable {X : Cx} {W : WX} {F : Fm} {ps : List V} {σ : L2.St} {G H : Hp} {A : List Addr} {env : Ev} {β : Type} {ok : β → Ev → Prop} {e : Expr} {es : List Expr} {d : DE} {ds : Ev → Rs (List RA)} {x m C : Str} {i k : Nat} {p pos apos cpos : Pos} {dvs : List V} {qs : List Str} {Fn' : Fn} {mask : List Bool} {pl : Sem Bool}
theorem okR.up {G1 : Hp} (s : Same G G1) {as : List RA} {Q : List V → Hp → Prop} (h : okR X F ps σ G Q as env) : okR X F ps σ G1 Q as env := fun v G' H' A' s' => h v G' H' A' (s.trans s')
theorem SR.seq {K1 : List V → Hp → Prop} (h : SR X W es ds) {f : List RA → Ev → Rs β} (I : EvIs X.K G H ps σ env A) (R : Rel F G H A) (P : ((ds env).bind f).post ok (exP X W F ps G))
    (k : ∀ as env' vs G' H' A', Same G G' → EvIs X.K G' H' ps σ env' A' → IsRs X.K G' σ vs as → Rel F G' H' A' → (f as env').post ok (exP X W F ps G') → K1 vs H') : RunA X es σ H K1 := by
  refine h F ps σ G H A K1 env I R ?_
  cases q : ds env with
  | ok t env' =>
    rw [q] at P
    exact fun vs G' H' A' s I' i R' => k t env' vs G' H' A' s I' i R' (post_up s P)
  | exc c fs env' => rw [q] at P; exact P
  | stuck => rw [q] at P; exact P
def rNil : Ev → Rs (List RA) := fun env => .ok [] env
def rD (d1 : DE) (ds : Ev → Rs (List RA)) : Ev → Rs (List RA) := fun env => (d1 env).bindD fun x env => (ds env).bind fun xs env => .ok (.inl x :: xs) env
def rO (i : Nat) (ds : Ev → Rs (List RA)) : Ev → Rs (List RA) := fun env => if (treeS (getS env i)).isSome = true then (ds env).bind fun xs env => .ok (.inr i :: xs) env else .stuck
theorem SR.nil : SR X W [] rNil := fun F ps σ G H A Q env I R P => PA.go pa_nil (P [] G H A (Same.refl G) I trivial R)
theorem SR.dd (hs : starEach (e :: es) X.env = (false, eval e X.env) :: starEach es X.env) (h : SE X W e d) (t : SR X W es ds) : SR X W (e :: es) (rD d ds) := fun F ps σ G H A Q env I R P =>
  PA.go (pa_cons pe_run pa_run hs) (h.seqD I R P fun x env1 v G1 H1 A1 s1 I1 i1 R1 P1 => t.seq I1 R1 P1 fun xs env2 vs G2 H2 A2 s2 I2 i2 R2 P2 => P2 (v :: vs) G2 H2 A2 (s1.trans s2) I2 ⟨i1.up s2, i2⟩ R2)
theorem SR.o (hs : starEach (.Name x p :: es) X.env = (false, eval (.Name x p) X.env) :: starEach es X.env) (hN : X.N[i]? = some x) (hv : visB X.env.scope x = true) (hd : (x == ("__debug__" : Str)) = false) (hcd : (x == ("__classdict__" : Str)) = false) (t : SR X W es ds) : SR X W (.Name x p :: es) (rO i ds) := fun F ps σ G H A Q env I R P => by
  refine PA.go (pa_cons pe_run pa_run hs) ?_
  unfold rO at P
  by_cases hz : (treeS (getS env i)).isSome = true
  · rw [if_pos hz] at P
    obtain ⟨t0, q0⟩ := Option.isSome_iff_exists.mp hz
    obtain ⟨v, B, C, hv1, _, _, _⟩ := I.tree q0
    refine PE.go (pe_var hN (vis_of hv) hd hcd) ⟨v, hv1, ?_⟩
    exact t.seq I R P fun xs env2 vs G2 H2 A2 s2 I2 i2 R2 P2 => P2 (v :: vs) G2 H2 A2 s2 I2 ⟨hv1, i2⟩ R2
  · rw [if_neg hz] at P; exact P.elim
def dCallO (mask : List Bool) (Fn' : Fn) (dvs : List V) (ds : Ev → Rs (List RA)) : DE := fun env => (ds env).bind fun as env => callO mask Fn' dvs as env
theorem SE.callO (tk : Takes X W) (hr : Room k X.A) (hgd : X.A.guards = some []) (D : Def1 X.prog X.w X.K X.mg X.base x k qs dvs (spF X.K mask Fn')) (hg : Gl X x) (hdb : (x == ("__debug__" : Str)) = false) (he : starEach (e :: es) X.env = (false, eval e X.env) :: starEach es X.env) (hpl : (backTo pos (starEach es X.env)).any (·.1) = false)
    (ha : SR X W (e :: es) ds) : SE X W (.Call (.Name x p) (e :: es) [] pos) (dCallO mask Fn' dvs ds) := fun F qs σ G H A Q env I R P => .of fun pins s J => by
  refine wpAny_Call_Name_kw (ld_glob J hg D.m (PySem.W.callWith_K (h₀ := X.base) J.ok.mod.kin D.kp (thn ((ha.seq (K1 := fun vs H1 => RunCs X (.ref (He.ga X.K x)) vs σ H1 Q) I R P ?_).r pos pins s J) fun us s1 ⟨vs, H1, I1, r, q⟩ => ⟨I1.kIn, q pins s1 us I1 r⟩) he hpl) hdb)
  intro as env1 vs G1 H1 A1 s1 I1 i1 R1 P1
  exact run_cs D.c hr hgd tk (sp_own I1 R1 i1 (P1.imp (fun _ _ _ h => h.up s1) fun _ _ _ _ h => h))
/-- name.m(..), the name our own instance -/
def instOkT (C m : Str) : T → Bool
  | .inst C' ns _ => decide (C' = C) && decide (m ∉ ns)
  | .d x => instOk C m x
  | _ => false
def dMethO (C m : Str) (mask : List Bool) (Fn' : Fn) (dvs : List V) (i : Nat) (ds : Ev → Rs (List RA)) : DE := fun env => if ((treeS (getS env i)).map (instOkT C m)) = some true then (ds env).bind fun as env => callO mask Fn' dvs (.inr i :: as) env else .stuck
theorem instOkT_is {K : PySem.W.Frag} {B : List Addr} {v : V} {y : T} (s : Same G H) (h : TIs K G H v y B) (e : instOkT C m y = true) : ∃ a dx fs, v = .ref a ∧ H a = some (.ins (He.ga K C) dx fs) ∧ fs.lookup m = none := by
  cases h with
  | d h =>
    obtain ⟨a, dx, fs, e1, e2, e3⟩ := instOk_is h e
    exact ⟨a, dx, fs, e1, s _ _ e2, e3⟩
  | @inst a dx C' fs ns ts A ha hn r =>
    obtain ⟨e1, e2⟩ := (Bool.and_eq_true _ _).mp e
    have e1 := of_decide_eq_true e1
    have e2 := of_decide_eq_true e2
    subst e1
    exact ⟨a, dx, fs, rfl, ha, not_lookup (hn ▸ e2)⟩
  | _ => cases e
theorem SE.methO (tk : Takes X W) (hr : Room k X.A) (hgd : X.A.guards = some []) (D' : DefM X.prog X.w X.K X.mg X.base C m k qs dvs (spF X.K mask Fn')) (he : starEach (e :: es) X.env = (false, eval e X.env) :: starEach es X.env) (hpl : (backTo cpos (starEach es X.env)).any (·.1) = false)
    (ht : MethEq X (.Name x p) m apos cpos (e :: es) pl) (hN : X.N[i]? = some x) (hv : visB X.env.scope x = true) (hd : (x == ("__debug__" : Str)) = false) (hcd : (x == ("__classdict__" : Str)) = false) (ha : SR X W (e :: es) ds) : SE X W (.Call (.Attribute (.Name x p) m apos) (e :: es) [] cpos) (dMethO C m mask Fn' dvs i ds) := fun F ps σ G H A Q env I R P => .of fun pins s J => by
  unfold dMethO at P
  by_cases hz : ((treeS (getS env i)).map (instOkT C m)) = some true
  · rw [if_pos hz] at P
    obtain ⟨t0, q0, q1⟩ := Option.map_eq_some_iff.mp hz
    obtain ⟨v, B, C0, hv1, ht1, _, _⟩ := I.tree q0
    obtain ⟨a, dx, fs, rfl, ha1, hl⟩ := instOkT_is R.gh ht1 q1
    let K1 : VK := fun v H1 => ∀ (u : Value) (s1 : Shared), Inv X pins σ H1 s1 → RelV v u → wpAny (model X.prog X.w) X.A (getMethod u m pl) (fun z s2 => wpAny (model X.prog X.w) X.A (callWith cpos z.1 z.2 (backTo cpos (starEach (e :: es) X.env)) (backToKw cpos (keywordEach [] X.env))) (EP X pins σ Q) X.xe s2) X.xe s1
    have main : RunE X (.Name x p) σ H K1 := PE.go (pe_var hN (vis_of hv) hd hcd) ⟨_, hv1, by
      intro u sh J1 ru
      cases ru
      refine getmeth_ok J1 ha1 D'.cl D'.mt hl ?_
      refine PySem.W.callWith_K (first := [.ref a]) (h₀ := X.base) J1.ok.mod.kin D'.mt.kp (thn ((ha.seq (K1 := fun vs H2 => RunCs X (.ref (He.ma X.K (He.ga X.K C) m)) (.ref a :: vs) σ H2 Q) I R P ?_).r cpos pins sh J1) fun us s2 ⟨vs, H2, J2, r, q⟩ => ⟨J2.kIn, q pins s2 (.ref a :: us) J2 (.cons rfl r)⟩) he hpl
      intro as env2 vs G2 H2 A2 s2 I2 i2 R2 P2
      exact run_cs D'.c hr hgd tk (sp_own (as := .inr i :: as) (vs := .ref a :: vs) I2 R2 ⟨hv1, i2⟩ (P2.imp (fun _ _ _ h => h.up s2) fun _ _ _ _ h => h))⟩
    exact PySem.W.methodCall_KW (pl := pl) (thn (main.r pins s J) fun u s1 ⟨v, H1, J1, r, q⟩ => q u s1 J1 r) ht
  · rw [if_neg hz] at P; exact P.elim
end
end Dn

namespace Dn
open PySem PySem.Spec PyProof.Rows L2
theorem takesF {X : Cx} : Takes X (fun _ _ _ _ => False) := fun u s' ⟨a, B, sI, pins, σ, H, cls, d, e, I, nb, up, sky, na, os, ag, w⟩ => w.elim
def instC (C : Str) : D → Bool
  | .inst C' _ _ => decide (C' = C)
  | _ => false
theorem instC_is {K : PySem.W.Frag} {G : Hp} {v : V} {y : D} {C : Str} (h : Is K G v y) (e : instC C y = true) : ∃ a dx fs, v = .ref a ∧ G a = some (.ins (He.ga K C) dx fs) := by
  cases y with
  | inst C' ns ds =>
    have e1 := of_decide_eq_true e
    subst e1
    obtain ⟨a, dx, fs, rfl, ha, hn, r⟩ := h.instE
    exact ⟨a, dx, fs, rfl, ha⟩
  | _ => cases e
/-- .. where no exception may leave -/
def callQ (Fn' : Fn) (n : Nat) (dvs : List V) (xs : List D) (env : Ev) : Rs T := match callP Fn' n dvs xs env with
  | .ok t e => .ok t e
  | _ => .stuck
theorem callQ_P {Fn' : Fn} {n : Nat} {dvs : List V} {xs : List D} {env : Ev} {ok : T → Ev → Prop} {ex ex' : XC → Fds → Ev → Prop} (P : (callQ Fn' n dvs xs env).post ok ex) : (callP Fn' n dvs xs env).post ok ex' := by
  unfold callQ at P
  cases q : callP Fn' n dvs xs env with
  | ok t e => rw [q] at P; exact P
  | exc c fs e => rw [q] at P; exact P.elim
  | stuck => rw [q] at P; exact P
section
variable {X : Cx} {W : WX} {F : Fm} {ps : List V} {σ : L2.St} {G H : Hp} {A : List Addr} {env : Ev} {e e2 o : Expr} {es : List Expr} {ds : Ev → Rs (List D)} {dr : Ev → Rs (List RA)} {d d2 : DE} {x m C : Str} {i k n : Nat} {p pos apos cpos : Pos} {dvs : List V} {qs : List Str} {Fn' : Fn} {mask : List Bool} {pl : Sem Bool}
/-! ### methods without arguments -/
theorem SE.methP0 (tk : Takes X W) (hr : Room k X.A) (hgd : X.A.guards = some []) (D' : DefM X.prog X.w X.K X.mg X.base C m k qs dvs (spF X.K (List.replicate n false) Fn')) (ht : MethEq X o m apos cpos [] pl) (h : SE X W o d) : SE X W (.Call (.Attribute o m apos) [] [] cpos) (dMethP C m Fn' n dvs d dNil) := fun F ps σ G H A Q env I R P => .of fun pins s J => by
  let K1 : VK := fun v H1 => ∀ (u : Value) (s1 : Shared), Inv X pins σ H1 s1 → RelV v u → wpAny (model X.prog X.w) X.A (getMethod u m pl) (fun z s2 => wpAny (model X.prog X.w) X.A (callWith cpos z.1 z.2 (backTo cpos (starEach [] X.env)) (backToKw cpos (keywordEach [] X.env))) (EP X pins σ Q) X.xe s2) X.xe s1
  have main : RunE X o σ H K1 := h.seqD I R P fun y env1 v G1 H1 A1 s1 I1 i1 R1 P1 => by
    intro u sh J1 ru
    by_cases hz : instOk C m y = true
    · rw [if_pos hz] at P1
      obtain ⟨a, dx, fs, rfl, ha1, hl⟩ := instOk_is i1 hz
      cases ru
      refine getmeth_ok J1 (R1.gh _ _ ha1) D'.cl D'.mt hl ?_
      refine PySem.W.callWith_K0 (first := [.ref a]) J1.kIn D'.mt.kp ?_
      have P1 : (Dn.callP Fn' n dvs [y] env1).post (okE X F ps σ G Q) (exP X W F ps G1) := P1
      exact run_cs D'.c hr hgd tk (sp_pure (vs := [.ref a]) I1 R1 (.cons i1 .nil) (callP_imp I1 R1 s1 P1)) pins sh [.ref a] J1 (.cons rfl .nil)
    · rw [if_neg hz] at P1; exact P1.elim
  exact PySem.W.methodCall_KW (pl := pl) (thn (main.r pins s J) fun u s1 ⟨v, H1, J1, r, q⟩ => q u s1 J1 r) ht
theorem SE.methO0 (tk : Takes X W) (hr : Room k X.A) (hgd : X.A.guards = some []) (D' : DefM X.prog X.w X.K X.mg X.base C m k qs dvs (spF X.K mask Fn'))
    (ht : MethEq X (.Name x p) m apos cpos [] pl) (hN : X.N[i]? = some x) (hv : visB X.env.scope x = true) (hd : (x == ("__debug__" : Str)) = false) (hcd : (x == ("__classdict__" : Str)) = false) : SE X W (.Call (.Attribute (.Name x p) m apos) [] [] cpos) (dMethO C m mask Fn' dvs i rNil) := fun F ps σ G H A Q env I R P => .of fun pins s J => by
  unfold dMethO at P
  by_cases hz : ((treeS (getS env i)).map (instOkT C m)) = some true
  · rw [if_pos hz] at P
    obtain ⟨t0, q0, q1⟩ := Option.map_eq_some_iff.mp hz
    obtain ⟨v, B, C0, hv1, ht1, _, _⟩ := I.tree q0
    obtain ⟨a, dx, fs, rfl, ha1, hl⟩ := instOkT_is R.gh ht1 q1
    let K1 : VK := fun v H1 => ∀ (u : Value) (s1 : Shared), Inv X pins σ H1 s1 → RelV v u → wpAny (model X.prog X.w) X.A (getMethod u m pl) (fun z s2 => wpAny (model X.prog X.w) X.A (callWith cpos z.1 z.2 (backTo cpos (starEach [] X.env)) (backToKw cpos (keywordEach [] X.env))) (EP X pins σ Q) X.xe s2) X.xe s1
    have main : RunE X (.Name x p) σ H K1 := PE.go (pe_var hN (vis_of hv) hd hcd) ⟨_, hv1, by
      intro u sh J1 ru
      cases ru
      refine getmeth_ok J1 ha1 D'.cl D'.mt hl ?_
      refine PySem.W.callWith_K0 (first := [.ref a]) J1.kIn D'.mt.kp ?_
      exact run_cs D'.c hr hgd tk (sp_own (as := [.inr i]) (vs := [.ref a]) I R ⟨hv1, trivial⟩ P) pins sh [.ref a] J1 (.cons rfl .nil)⟩
    exact PySem.W.methodCall_KW (pl := pl) (thn (main.r pins s J) fun u s1 ⟨v, H1, J1, r, q⟩ => q u s1 J1 r) ht
  · rw [if_neg hz] at P; exact P.elim
/-! ### properties -/
structure DefP (P : Program) (w : World) (K : PySem.W.Frag) (mg : Str → Option Value) (base : Heap) (C f : Str) (k : Nat) (ps : List Str) (sp : Sp) : Prop where
  cl : Cls K (He.ga K C)
  ex : ∃ pa g, PropOf K (He.ga K C) f pa g ∧ Callee P w K mg base g k ps [] sp
def dProp (C : Str) (Fn' : Fn) (d : DE) : DE := fun env => (d env).bindD fun y env => if instC C y = true then callQ Fn' 1 [] [y] env else .stuck
theorem run_prop {pins : List (Addr × Obj)} {s : Shared} {a dx : Addr} {fs : List (Str × V)} {sp : Sp} {Q : VK} {b : Bool} {E' : Value → Shared → Prop} (I : Inv X pins σ H s) (ea : H a = some (.ins (He.ga X.K C) dx fs)) (D' : DefP X.prog X.w X.K X.mg X.base C m k qs sp)
    (hr : Room (k + 1) X.A) (hgd : X.A.guards = some []) (h : sp [.ref a] H Q (fun _ _ _ => False)) : wpAny (model X.prog X.w) X.A (getAttr (.ref a) m b) (EP X pins σ Q) E' s := by
  obtain ⟨p, g, hp, D⟩ := D'.ex
  obtain ⟨fd, ds, F, hb, hd, _⟩ := D.ex
  cases hd
  obtain ⟨mA, O, _, _, _, _⟩ := ins_get I.hok ea
  obtain ⟨od, J, _⟩ := O.look
  obtain ⟨rest, hrec⟩ := hp.rec_
  have I1 := I.tok (s.toks + 1)
  have hl : [Value.ref a].length = qs.length := by rw [← F.len _ _ _ _ h]; rfl
  have hc : (PySem.W.clsIn X.K (He.ga X.K C)).isSome = true := by
    obtain ⟨cd, hc, _⟩ := PySem.W.any_some D'.cl.hd
    rw [hc]
    rfl
  refine PySem.W.get_bind I.kIn J (PySem.W.plainGet_of (D'.cl.get m)).1 (PySem.W.findObj_data hc hp.at_ hp.get hp.tak) (PySem.W.plainGet_of (D'.cl.get m)).2 (wpAny_call (PySem.W.prop_get (s := { s with toks := s.toks + 1 }) I.kIn hrec ?_))
  refine codeAny_mono (F.run X.A.in1 X.stack { s with toks := s.toks + 1 } H ⟨[.ref a], []⟩ [.ref a] [.ref a] Q _ hr.in1 hgd I1.env0.in1 (by simpa using hb _ [.ref a] I1.kIn hl) (.cons rfl .nil) h) fun r s' hq => ?_
  cases r with
  | error er => obtain ⟨_, _, _, _, _, _, _, _, _, _, _, _, hE⟩ := hq; exact hE.elim
  | ok fl =>
    cases fl with
    | ret u =>
      obtain ⟨v, H', I3, rv, q3⟩ := I1.after hq
      show wpAny _ _ (handedOut u) _ _ _
      rw [PySem.W.handedOut_of (handed_of rv)]
      exact wpAny_pure ⟨v, H', I3, rv, q3⟩
    | next => exact False.elim hq
    | brk => exact False.elim hq
    | cont => exact False.elim hq
theorem SE.prop (hr : Room (k + 1) X.A) (hgd : X.A.guards = some []) (D' : DefP X.prog X.w X.K X.mg X.base C m k qs (spF X.K [false] Fn')) (hab : attributeBase o m X.env (eval o X.env) = eval o X.env) (h : SE X W o d) : SE X W (.Attribute o m pos) (dProp C Fn' d) := fun F ps σ G H A Q env I R P => .of fun pins s J => by
  let K1 : VK := fun v H1 => ∀ (u : Value) (s1 : Shared), Inv X pins σ H1 s1 → RelV v u → wpAny (model X.prog X.w) X.A (getAttr u m true) (EP X pins σ Q) X.xe s1
  have main : RunE X o σ H K1 := h.seqD I R P fun y env1 v G1 H1 A1 s1 I1 i1 R1 P1 => by
    intro u sh J1 ru
    by_cases hz : instC C y = true
    · rw [if_pos hz] at P1
      obtain ⟨a, dx, fs, rfl, ha1⟩ := instC_is i1 hz
      cases ru
      exact run_prop J1 (R1.gh _ _ ha1) D' hr hgd (sp_pure (W := fun _ _ _ _ => False) (n := 1) (vs := [.ref a]) I1 R1 (.cons i1 .nil) (callP_imp I1 R1 s1 (callQ_P P1)))
    · rw [if_neg hz] at P1; exact P1.elim
  exact attr_of hab (thn (main.r pins s J) fun u s1 ⟨v, H1, J1, r, q⟩ => q u s1 J1 r)
/-! ### x in o, o of an own class -/
def tB' (neg : Bool) : T → Ev → Rs T := fun t env => match t with
  | .d (.bool b) => .ok (.d (.bool (xor neg b))) env
  | _ => .stuck
def dInO (C : Str) (Fn' : Fn) (neg : Bool) (d1 d2 : DE) : DE := fun env => (d1 env).bindD fun x env => (d2 env).bindD fun y env => if instC C y = true then (callQ Fn' 2 [] [y, x] env).bind (tB' neg) else .stuck
theorem contains_own {pins : List (Addr × Obj)} {s : Shared} {a B dx f : Addr} {fs : List (Str × V)} {E : Value → Shared → Prop} {v : Value} {Q : Bool → Shared → Prop} (I : Inv X pins σ H s) (ea : H a = some (.ins B dx fs)) (hm : Meth X.K B "__contains__" f)
    (h : wpAny (model X.prog X.w) X.A (call (.ref f) [.ref a, v]) (fun r s' => wpAny (model X.prog X.w) X.A (truthy r) Q E s') E s) : wpAny (model X.prog X.w) X.A (contains (.ref a) v) Q E s := by
  obtain ⟨mA, O, _, _, _, _⟩ := ins_get I.hok ea
  obtain ⟨od, J, _⟩ := O.look
  unfold contains
  refine wpAny_holding (wpAny_bind (wpAny_bind (J.type.here ((PySem.W.looks_findIn I.kIn hm.at_).here ?_))))
  rw [if_neg (by simp)]
  exact wpAny_bind (PySem.W.unlessNone_K I.kIn J hm.at_ hm.fn h)
/-- a call's answer read on -/
theorem callQ_bind {β : Type} {Fn' : Fn} {xs : List D} {f : T → Ev → Rs β} {ok : β → Ev → Prop} {ex : XC → Fds → Ev → Prop} (P : ((callQ Fn' n dvs xs env).bind f).post ok ex) : ∃ t, callP Fn' n dvs xs env = .ok t env ∧ (f t env).post ok ex := by
  unfold callQ at P
  cases q : callP Fn' n dvs xs env with
  | ok t e =>
    rw [q] at P
    have : e = env := by
      unfold callP at q
      by_cases hl : xs.length + dvs.length = n
      · rw [if_pos hl] at q
        cases q2 : Fn' ((xs ++ dvs.map vD).map .d) with
        | ok t b => rw [q2] at q; cases q; rfl
        | _ => rw [q2] at q; cases q
      · rw [if_neg hl] at q; cases q
    subst this
    exact ⟨t, rfl, P⟩
  | exc c fs e => rw [q] at P; exact P.elim
  | stuck => rw [q] at P; exact P.elim
theorem sp_ok {vs : List V} {xs : List D} {t : T} {Q : VK} (I : EvIs X.K G H ps σ env A) (R : Rel F G H A) (i : IsL X.K G vs xs) (e : callP Fn' n dvs xs env = .ok t env) (k : OkO X F G H A Q t) : spF X.K (List.replicate n false) Fn' (vs ++ dvs) H Q (fun cls dx H' => False) :=
  sp_pure (W := fun _ _ _ _ => False) I R i (by rw [e]; exact ⟨k, rfl⟩)
theorem op_own {neg : Bool} {xv : V} {a : Addr} {y z : D} {Q : VK} (hr : Room k X.A) (hgd : X.A.guards = some []) (D' : DefM X.prog X.w X.K X.mg X.base C "__contains__" k qs [] (spF X.K [false, false] Fn')) (hz : instC C y = true)
    (I : EvIs X.K G H ps σ env A) (R : Rel F G H A) (i1 : Is X.K G xv z) (i2 : Is X.K G (.ref a) y) {b : Bool} (e : callP Fn' 2 [] [y, z] env = .ok (.d (.bool b)) env) (kk : OkO X F G H A Q (.d (.bool (xor neg b)))) : RunO X (compareOp (if neg = true then .NotIn else .In)) xv (.ref a) H Q := by
  intro pins s τ v u J rx ry
  cases ry
  obtain ⟨a', dx, fs, ea, ha⟩ := instC_is i2 hz
  cases ea
  have main : wpAny (model X.prog X.w) X.A (contains (.ref a) v) (fun c s' => ∃ H', Inv X pins τ H' s' ∧ Q (.bl (xor neg c)) H') X.xe s := by
    refine contains_own J (R.gh _ _ ha) D'.mt (thn (run_cs (W := fun _ _ _ _ => False) (Q := fun v H' => ∃ c, v = .bl c ∧ Q (.bl (xor neg c)) H') (vs := [.ref a, xv]) (σ := τ) D'.c hr hgd takesF ?_ pins s [.ref a, v] J (.cons rfl (.cons rx .nil))) fun r s' hq => ?_)
    · refine sp_ok (n := 2) (vs := [.ref a, xv]) I R (.cons i2 (.cons i1 .nil)) e fun v' G' H' B s2 k2 t' r2 => ?_
      cases t' with
      | d t' =>
        cases t'
        exact ⟨b, rfl, kk _ G' H' [] s2 k2 (.d (.bl _)) r2⟩
    · obtain ⟨v', H', I2, rv, c, rfl, q2⟩ := hq
      cases (show r = Value.bool c from rv)
      exact wpAny_truthy_bool ⟨H', I2, q2⟩
  cases neg with
  | false =>
    refine wpAny_bind (thn main fun c s' ⟨H', J', q⟩ => wpAny_pure ⟨.bl c, H', J', rfl, ?_⟩)
    rw [Bool.false_xor] at q; exact q
  | true =>
    refine wpAny_bind (thn main fun c s' ⟨H', J', q⟩ => wpAny_pure ⟨.bl (!c), H', J', rfl, ?_⟩)
    rw [Bool.true_xor] at q; exact q
theorem in_own {neg : Bool} {op : CmpOp} (hop : op = if neg = true then .NotIn else .In) (hr : Room k X.A) (hgd : X.A.guards = some []) (D' : DefM X.prog X.w X.K X.mg X.base C "__contains__" k qs [] (spF X.K [false, false] Fn')) (hm : behindInMarks op e2 = false)
    (h1 : SE X W e d) (h2 : SE X W e2 d2) : SE X W (.Compare e [op] [e2] pos) (dInO C Fn' neg d d2) := fun F ps σ G H A Q env I R P =>
  PE.go (pe_cmpR opr_run pe_run pe_run hm) (h1.seqD I R P fun x env1 v G1 H1 A1 s1 I1 i1 R1 P1 => h2.seqD I1 R1 P1 fun y env2 u G2 H2 A2 s2 I2 i2 R2 P2 => by
    by_cases hz : instC C y = true
    · rw [if_pos hz] at P2
      obtain ⟨t, et, P3⟩ := callQ_bind P2
      cases t with
      | d z =>
        cases z with
        | bool b =>
          obtain ⟨a, dx, fs, rfl, ha⟩ := instC_is i2 hz
          rw [hop]
          exact op_own hr hgd D' hz I2 R2 (i1.up s2) i2 et (okO_of I2 R2 (s1.trans s2) P3)
        | _ => exact P3.elim
      | _ => exact P3.elim
    · rw [if_neg hz] at P2; exact P2.elim)
theorem SE.inO (hr : Room k X.A) (hgd : X.A.guards = some []) (D' : DefM X.prog X.w X.K X.mg X.base C "__contains__" k qs [] (spF X.K [false, false] Fn')) (hm : behindInMarks .In e2 = false)
    (h1 : SE X W e d) (h2 : SE X W e2 d2) : SE X W (.Compare e [.In] [e2] pos) (dInO C Fn' false d d2) := in_own (neg := false) rfl hr hgd D' hm h1 h2
theorem SE.notInO (hr : Room k X.A) (hgd : X.A.guards = some []) (D' : DefM X.prog X.w X.K X.mg X.base C "__contains__" k qs [] (spF X.K [false, false] Fn')) (hm : behindInMarks .NotIn e2 = false)
    (h1 : SE X W e d) (h2 : SE X W e2 d2) : SE X W (.Compare e [.NotIn] [e2] pos) (dInO C Fn' true d d2) := in_own (neg := true) rfl hr hgd D' hm h1 h2
/-! ### a class called -/
structure DefI (P : Program) (w : World) (K : PySem.W.Frag) (mg : Str → Option Value) (base : Heap) (C : Str) (k : Nat) (ps : List Str) (dvs : List V) (sp : Sp) : Prop where
  m : mg C = some (.ref (He.ga K C))
  mkr : Mk K (He.ga K C) (He.ma K (He.ga K C) "__init__")
  c : Callee P w K mg base (He.ma K (He.ga K C) "__init__") k ps dvs sp
theorem run_mk {B f : Addr} {sp : Sp} {vs : List V} {Q : VK} (M : Mk X.K B f) (D : Callee X.prog X.w X.K X.mg X.base f k qs dvs sp) (hr : Room (k + 1) X.A) (hgd : X.A.guards = some []) (tk : Takes X W)
    (h : ∀ x dx, H x = none → H dx = none → dx ≠ x → sp (.ref x :: (vs ++ dvs)) (upd (upd H dx (.own x)) x (.ins B dx [])) (fun v H2 => v = .non ∧ Q (.ref x) H2) (fun cls d H' => W cls d σ H')) : RunCs X (.ref B) vs σ H Q := fun pins s us I r => by
  obtain ⟨fd, dw, F, hb, hd, _⟩ := D.ex
  have hq := h (s.heap.objs.size + 1) s.heap.objs.size (I.hok.fresh (Nat.le_succ _)) (I.hok.fresh (Nat.le_refl _)) (Nat.ne_of_lt (Nat.lt_succ_self _))
  have I2 := Inv.made (C := B) I
  have r2 : Vals (V.ref (s.heap.objs.size + 1) :: (vs ++ dvs)) (Value.ref (s.heap.objs.size + 1) :: (us ++ dw)) := .cons rfl (r.append hd)
  have hl : (Value.ref (s.heap.objs.size + 1) :: us ++ dw).length = qs.length := by
    have e := r2.length
    rw [F.len _ _ _ _ hq] at e
    exact e.symm
  refine wpAny_call (make_map (f := f) I.kIn M.makes M.init (beq_iff_eq.mp M.fn) (codeAny_mono (F.run _ X.stack _ _ ⟨Value.ref (s.heap.objs.size + 1) :: us, []⟩ (Value.ref (s.heap.objs.size + 1) :: (us ++ dw)) _ _ _ (hr.make B us []) hgd
    (I2.env0.make B us []) (hb _ (Value.ref (s.heap.objs.size + 1) :: us) I2.kIn hl) r2 hq) fun r' s' hq' => ?_))
  cases r' with
  | error e => exact passAt tk σ pins _ _ e s' I2 hq'
  | ok fl =>
    cases fl with
    | ret u =>
      obtain ⟨v, H', I3, rv, ev, q3⟩ := I2.after hq'
      subst ev
      exact ⟨rv, ⟨V.ref (s.heap.objs.size + 1), H', I3, rfl, q3⟩⟩
    | next => exact False.elim hq'
    | brk => exact False.elim hq'
    | cont => exact False.elim hq'
def callM (C : Str) (Fn' : Fn) (n : Nat) (dvs : List V) (xs : List D) (env : Ev) : Rs T := if xs.length + dvs.length = n then (match Fn' (.inst C [] [] :: (xs ++ dvs.map vD).map .d) with
  | .ok (.d .none) [t] => .ok t env
  | .exc c fs _ => .exc c fs env
  | _ => .stuck) else .stuck
theorem sp_mk {a dx : Addr} {vs : List V} {xs : List D} {Q : VK} (ha : H a = none) (hd : H dx = none) (hne : dx ≠ a) (I : EvIs X.K G H ps σ env A) (R : Rel F G H A) (i : IsL X.K G vs xs) (P : (callM C Fn' n dvs xs env).post (okE X F ps σ G Q) (exP X W F ps G)) :
    spF X.K (true :: List.replicate n false) Fn' (.ref a :: (vs ++ dvs)) (upd (upd H dx (.own a)) a (.ins (He.ga X.K C) dx [])) (fun v H2 => v = .non ∧ Q (.ref a) H2) (fun cls d H' => W cls d σ H') := by
  unfold callM at P
  by_cases hl : xs.length + dvs.length = n
  · rw [if_pos hl] at P
    have i2 := i.app (isL_vD (K := X.K) (G := G) dvs)
    have hn : (xs ++ dvs.map vD).length = n := by rw [List.length_append, List.length_map]; exact hl
    have R1 : Rel F G (upd H dx (.own a)) A := R.junk hd
    have ha1 : (upd H dx (.own a)) a = none := by rw [upd_ne (Ne.symm hne)]; exact ha
    have R2 : Rel F G (upd (upd H dx (.own a)) a (.ins (He.ga X.K C) dx [])) ([a] ++ A) := R1.mine ha1
    have I2 : ∀ b ∈ A, (upd (upd H dx (.own a)) a (.ins (He.ga X.K C) dx [])) b = H b := fun b hb => by rw [upd_ne (R1.ne ha1 b hb), upd_ne (R.ne hd b hb)]
    have ht : TIsL X.K G (upd (upd H dx (.own a)) a (.ins (He.ga X.K C) dx [])) (.ref a :: (vs ++ dvs)) (.inst C [] [] :: (xs ++ dvs.map vD).map .d) [a] := TIsL.cons (A := [a]) (B := []) (.inst upd_same rfl .nil) (isL_d i2)
    refine ⟨_, [a], G, ht, ⟨.inl rfl, hn ▸ mOk_d _⟩, R2.gh, R2.left.nd, fun b hb => ⟨(R2.left.fp b hb).1, (R2.left.fp b hb).2.1⟩, ?_⟩
    cases q : Fn' (.inst C [] [] :: (xs ++ dvs.map vD).map .d) with
    | stuck => rw [q] at P; exact P.elim
    | ok t back =>
      rw [q] at P
      intro v G' H' A' B r t' tb
      rw [show maskd (true :: List.replicate n false) (V.ref a :: (vs ++ dvs)) = [V.ref a] from congrArg (V.ref a :: ·) (maskd_d n _)] at tb
      cases tb with
      | @cons _ _ u us Bu Bs hu hs =>
        cases hs
        cases t with
        | d z =>
          cases z with
          | none =>
            cases t' with
            | d t' =>
              obtain ⟨r2, s2, k2⟩ := Rel.back (B := [a]) (A := A) R2 r
              refine ⟨t'.noneE, P (.ref a) G' H' A Bu s2 (I.up s2 fun b hb => (k2 b hb).trans (I2 b hb)) hu ?_⟩
              simpa using r2
          | _ => exact P.elim
        | _ => exact P.elim
    | exc c fs back =>
      rw [q] at P
      intro cls dx' G' H' A' r tb x
      obtain ⟨r2, s2, k2⟩ := Rel.back (B := [a]) (A := A) R2 r
      exact P cls dx' σ G' H' A s2 (I.up s2 fun b hb => (k2 b hb).trans (I2 b hb)) r2.right x
  · rw [if_neg hl] at P; exact P.elim
def dMk (C : Str) (Fn' : Fn) (n : Nat) (dvs : List V) (ds : Ev → Rs (List D)) : DE := fun env => (ds env).bind fun xs env => callM C Fn' n dvs xs env
theorem SE.mk (tk : Takes X W) (hr : Room (k + 1) X.A) (hgd : X.A.guards = some []) (D' : DefI X.prog X.w X.K X.mg X.base C k qs dvs (spF X.K (true :: List.replicate n false) Fn')) (hg : Gl X C) (hdb : (C == ("__debug__" : Str)) = false) (he : starEach (e :: es) X.env = (false, eval e X.env) :: starEach es X.env) (hpl : (backTo pos (starEach es X.env)).any (·.1) = false)
    (ha : SA X W (e :: es) ds) : SE X W (.Call (.Name C p) (e :: es) [] pos) (dMk C Fn' n dvs ds) := fun F qs σ G H A Q env I R P => .of fun pins s J => by
  refine wpAny_Call_Name_kw (ld_glob J hg D'.m (PySem.W.callWith_K (h₀ := X.base) J.ok.mod.kin D'.mkr.kp (thn ((ha.seq (K1 := fun vs H1 => RunCs X (.ref (He.ga X.K C)) vs σ H1 Q) I R P ?_).r pos pins s J) fun us s1 ⟨vs, H1, I1, r, q⟩ => ⟨I1.kIn, q pins s1 us I1 r⟩) he hpl) hdb)
  intro xs env1 vs G1 H1 A1 s1 I1 i1 R1 P1
  exact run_mk D'.mkr D'.c hr hgd tk fun a dx ha hd hne => sp_mk ha hd hne I1 R1 i1 (P1.imp (fun _ _ _ h => h.up s1) fun _ _ _ _ h => h)
theorem SE.mk0 (tk : Takes X W) (hr : Room (k + 1) X.A) (hgd : X.A.guards = some []) (D' : DefI X.prog X.w X.K X.mg X.base C k qs dvs (spF X.K (true :: List.replicate n false) Fn')) (hg : Gl X C) (hdb : (C == ("__debug__" : Str)) = false) : SE X W (.Call (.Name C p) [] [] pos) (dMk C Fn' n dvs dNil) := fun F qs σ G H A Q env I R P => .of fun pins s J => by
  refine wpAny_Call_Name_kw (ld_glob J hg D'.m (PySem.W.callWith_K0 J.kIn D'.mkr.kp ?_) hdb)
  exact run_mk (vs := []) D'.mkr D'.c hr hgd tk (fun a dx ha hd hne => sp_mk ha hd hne I R .nil P) pins s [] J .nil
end
end Dn

namespace Dn
open PySem PySem.Spec PyProof.Rows L2
/-! ### chains -/
theorem bindD_bind {β γ : Type} {r : Rs T} {f : D → Ev → Rs β} {g : β → Ev → Rs γ} : (r.bindD f).bind g = r.bindD fun x e => (f x e).bind g := by cases r <;> rfl
theorem bind_bind {α β γ : Type} {r : Rs α} {f : α → Ev → Rs β} {g : β → Ev → Rs γ} : (r.bind f).bind g = r.bind fun x e => (f x e).bind g := by cases r <;> rfl
section
variable {X : Cx} {W : WX} {F : Fm} {ps : List V} {σ : L2.St} {G H : Hp} {A : List Addr} {env : Ev} {e e2 e3 : Expr} {d d1 d2 : DE} {d3 : Ev → Rs D} {pos : Pos} {β : Type} {ok : β → Ev → Prop} {op op' : CmpOp} {o o' : D → D → Option T}
def chD (o o' : D → D → Option T) (d3 : Ev → Rs D) (x y : D) : DE := fun env => match o x y with
  | some (.d (.bool k)) => if k = true then (d3 env).bind fun z env => ofO (o' y z) env else .ok (.d (.bool false)) env
  | _ => .stuck
def dChain (o o' : D → D → Option T) (d1 d2 : DE) (d3 : Ev → Rs D) : DE := fun env => (d1 env).bindD fun x env => (d2 env).bindD fun y env => chD o o' d3 x y env
theorem chain_run (ho : OpV X (compareOp op) o) (ho' : OpV X (compareOp op') o') (h1 : SE X W e d1) (h2 : SE X W e2 d2) (h3 : SV X W e3 d3) {f : T → Ev → Rs β} {Q : VK} (I : EvIs X.K G H ps σ env A) (R : Rel F G H A)
    (P : ((d1 env).bindD fun x env => (d2 env).bindD fun y env => ((chD o o' d3 x y env).bind f)).post ok (exP X W F ps G))
    (k : ∀ t env' v G' H' A' B, Same G G' → EvIs X.K G' H' ps σ env' A' → TIs X.K G' H' v t B → Rel F G' H' (B ++ A') → (f t env').post ok (exP X W F ps G') → Q v H') :
    tChain (RunO X (compareOp op)) (RunO X (compareOp op')) (RunE X e) (RunE X e2) (RunE X e3) σ H Q :=
  h1.seqD I R P fun x env1 v G1 H1 A1 s1 I1 i1 R1 P1 => h2.seqD I1 R1 P1 fun y env2 u G2 H2 A2 s2 I2 i2 R2 P2 => by
    unfold chD at P2
    cases q : o x y with
    | none => rw [q] at P2; exact P2.elim
    | some t =>
      rw [q] at P2
      cases t with
      | d t =>
        cases t with
        | bool b =>
          refine ho F A2 G2 H2 v u x y _ _ R2 ((i1.up s2).vw R2.gh) (i2.vw R2.gh) q fun v3 G3 H3 B s3 k3 t3 R3 => ?_
          cases t3 with
          | d t3 =>
            cases t3
            refine ⟨b, rfl, ?_⟩
            have I3 := I2.up s3 k3
            cases b with
            | false => exact k _ env2 _ G3 H3 A2 [] ((s1.trans s2).trans s3) I3 (.d (.bl _)) R3 (post_up s3 P2)
            | true =>
              have P3 : ((d3 env2).bind fun z env => (ofO (o' y z) env).bind f).post ok (exP X W F ps G2) := by
                have e : (((d3 env2).bind fun z env => ofO (o' y z) env).bind f) = ((d3 env2).bind fun z env => (ofO (o' y z) env).bind f) := by cases d3 env2 <;> rfl
                rw [← e]; exact P2
              refine h3.seq I3 R3 (post_up s3 P3) fun z env4 w G4 H4 A4 s4 I4 i4 R4 P4 => ?_
              cases q2 : o' y z with
              | none => rw [q2] at P4; exact P4.elim
              | some t4 =>
                rw [q2] at P4
                exact ho' F A4 G4 H4 u w y z t4 Q R4 (((i2.up s3).up s4).vw R4.gh) i4 q2 fun v5 G5 H5 B5 s5 k5 t5 R5 => k t4 env4 v5 G5 H5 A4 B5 ((((s1.trans s2).trans s3).trans s4).trans s5) (I4.up s5 k5) t5 R5 (post_up s5 P4)
        | _ => exact P2.elim
      | _ => exact P2.elim
theorem SE.chain (ho : OpV X (compareOp op) o) (ho' : OpV X (compareOp op') o') (hm : lastMarks [op, op'] [e2, e3] = false) (h1 : SE X W e d1) (h2 : SE X W e2 d2) (h3 : SV X W e3 d3) : SE X W (.Compare e [op, op'] [e2, e3] pos) (dChain o o' d1 d2 d3) := fun F ps σ G H A Q env I R P =>
  PE.go (pe_chain opr_run opr_run pe_run pe_run pe_run hm) (chain_run (f := fun t env => .ok t env) (ok := okE X F ps σ G Q) ho ho' h1 h2 h3 I R (by
    unfold dChain at P
    have e : (fun x env => (d2 env).bindD fun y env => (chD o o' d3 x y env).bind fun t env => Rs.ok t env) = (fun x env => (d2 env).bindD fun y env => chD o o' d3 x y env) := by
      funext x env; congr 1; funext y env; exact bind_ok
    rw [e]; exact P) fun t env' v G' H' A' B s I' i R' P' => (show okE X F ps σ G Q t env' from P') v G' H' A' B s I' i R')
theorem ST.chain (ho : OpV X (compareOp op) o) (ho' : OpV X (compareOp op') o') (hm : lastMarks [op, op'] [e2, e3] = false) (h1 : SE X W e d1) (h2 : SE X W e2 d2) (h3 : SV X W e3 d3) : ST X W (.Compare e [op, op'] [e2, e3] pos) (aB (dChain o o' d1 d2 d3)) := fun F ps σ G H A Q env I R P =>
  PT.go (pt_chain opr_run opr_run pe_run pe_run pe_run hm) (chain_run (f := tB) (ok := okT X F ps σ G Q) ho ho' h1 h2 h3 I R (by
    unfold aB dChain at P
    simp only [bindD_bind] at P
    exact P) fun t env' v G' H' A' B s I' i R' P' => tB_run s I' i R' P')
end
end Dn

namespace Dn
open PySem PySem.Spec PyProof.Rows L2
/-! ### targets of a comprehension: only the own slots are written -/
theorem wipe_get {σ : L2.St} {i : Nat} : ∀ {vs : List Nat}, i ∈ vs → i < σ.length → (wipe σ vs)[i]? = some none
  | [], h, _ => by cases h
  | v :: vs, h, hl => by
    unfold wipe
    by_cases e : v = i
    · subst e; exact List.getElem?_set_self (by rw [wipe_length]; exact hl)
    · rw [List.getElem?_set_ne e]
      exact wipe_get ((List.mem_cons.mp h).resolve_left (Ne.symm e)) hl
theorem wipe_set {σ : L2.St} {i : Nat} {v : Option V} {vs : List Nat} (h : i ∈ vs) : wipe (σ.set i v) vs = wipe σ vs := by
  apply List.ext_getElem?
  intro j
  by_cases hj : j ∈ vs
  · by_cases hl : j < σ.length
    · rw [wipe_get hj hl, wipe_get hj (by rw [List.length_set]; exact hl)]
    · rw [List.getElem?_eq_none (by rw [wipe_length, List.length_set]; omega), List.getElem?_eq_none (by rw [wipe_length]; omega)]
  · rw [wipe_out hj, wipe_out hj, List.getElem?_set_ne (fun e => hj (by rw [← e]; exact h))]
theorem wipe_wipe {σ : L2.St} {vs : List Nat} : wipe (wipe σ vs) vs = wipe σ vs := by
  apply List.ext_getElem?
  intro j
  by_cases hj : j ∈ vs
  · by_cases hl : j < σ.length
    · rw [wipe_get hj hl, wipe_get hj (by rw [wipe_length]; exact hl)]
    · rw [List.getElem?_eq_none (by rw [wipe_length, wipe_length]; omega), List.getElem?_eq_none (by rw [wipe_length]; omega)]
  · rw [wipe_out hj]
def SGw (X : Cx) (ws : List Nat) (tg : Expr) (g : D → Ev → Option Ev) : Prop := ∀ F ps σ G H A v x env env' Q, EvIs X.K G H ps σ env A → Rel F G H A → Is X.K G v x → g x env = some env' →
  (∀ σ' A', EvIs X.K G H ps σ' env' A' → Rel F G H A' → wipe σ' ws = wipe σ ws → Q σ' H) → RunG X tg v σ H Q
def SGsw (X : Cx) (ws : List Nat) (ts : List Expr) (g : List D → Ev → Option Ev) : Prop := ∀ F ps σ G H A vs xs env env' Q, EvIs X.K G H ps σ env A → Rel F G H A → IsL X.K G vs xs → g xs env = some env' →
  (∀ σ' A', EvIs X.K G H ps σ' env' A' → Rel F G H A' → wipe σ' ws = wipe σ ws → Q σ' H) → RunGs X ts vs σ H Q
section
variable {X : Cx} {W : WX} {F : Fm} {ps : List V} {σ : L2.St} {G H : Hp} {A B : List Addr} {env env0 env' : Ev} {e tg : Expr} {es : List Expr} {pos : Pos} {x : Str} {i : Nat} {ws : List Nat}
theorem SGw.name (hN : X.N.Nodup) (hi : X.N[i]? = some x) (hx : locB X.env.scope x = true) (hf : fnB X x = true) (hw : i ∈ ws) : SGw X ws (.Name x pos) (gNm i) := fun F ps σ G H A v z env env' Q I R h e k => by
  have e' : (if isPar (getS env i) = true then none else some (setS env i (.loc (.d z)))) = some env' := e
  by_cases hp : isPar (getS env i) = true
  · rw [if_pos hp] at e'; cases e'
  · rw [if_neg hp] at e'
    cases e'
    obtain ⟨A', I', R'⟩ := I.putR (by simpa using hp) (B := []) (.d h) R
    exact PG.go (pg_name hN hi (loc_of hx) (fn_ofB hf)) (k _ A' I' R' (wipe_set hw))
theorem SGsw.nil : SGsw X ws [] gNil := fun F ps σ G H A vs xs env env' Q I R h e k => by
  cases h with
  | nil => cases e; exact PGs.go pgs_nil ⟨rfl, k σ A I R rfl⟩
  | cons => cases e
theorem SGsw.cons {g : D → Ev → Option Ev} {gs : List D → Ev → Option Ev} (hs : (assignEach (e :: es) X.env).map (·.2) = assign e X.env :: (assignEach es X.env).map (·.2)) (h1 : SGw X ws e g) (h2 : SGsw X ws es gs) : SGsw X ws (e :: es) (gCons g gs) := fun F ps σ G H A vs xs env env' Q I R h e k => by
  cases h with
  | nil => cases e
  | cons h t =>
    obtain ⟨env1, e1, e2⟩ := Option.bind_eq_some_iff.mp e
    exact PGs.go (pgs_cons pg_run pgs_run hs) ⟨_, _, rfl, h1 F ps σ G H A _ _ env env1 _ I R h e1 fun σ1 A1 I1 R1 w1 => h2 F ps σ1 G H A1 _ _ env1 env' Q I1 R1 t e2 fun σ2 A2 I2 R2 w2 => k σ2 A2 I2 R2 (w2.trans w1)⟩
theorem SGw.tup {n k1 : Nat} {gs : List D → Ev → Option Ev} (hc : X.calm = true) (hn : (assignEach es X.env).length = n) (hst : (assignEach es X.env).findIdx? (·.1) = none) (h : SGsw X ws es gs) : SGw X ws (.Tuple es k1 pos) (gTup n gs) := fun F ps σ G H A v x env env' Q I R h1 e k => by
  cases x with
  | tup xs =>
    have e : (if xs.length = n then gs xs env else none) = some env' := e
    by_cases hl : xs.length = n
    · rw [if_pos hl] at e
      obtain ⟨a, vs, rfl, ha, r⟩ := h1.tupE
      exact PG.go (pg_tup hc pgs_run (hn.trans hl.symm) hst) ⟨a, vs, rfl, SqT.of (R.gh _ _ ha), r.length, h F ps σ G H A vs xs env env' Q I R r e k⟩
    · rw [if_neg hl] at e; cases e
  | _ => cases e
end
/-! ### the own slots forgotten, put back -/
def clrO (env : Ev) : List Nat → Option Ev
  | [] => some env
  | v :: vs => (clrO env vs).bind fun e => if isPar (getS e v) = true then none else some (setS e v .none)
def flatS : Slot → Bool
  | .none => true
  | .loc (.d _) => true
  | _ => false
def rstO (env0 : Ev) : List Nat → Ev → Ev
  | [], env => env
  | v :: vs, env => rstO env0 vs (setS env v (getS env0 v))
section
variable {K : PySem.W.Frag} {ps : List V} {σ : L2.St} {G H : Hp} {A B : List Addr} {env env0 env' : Ev}
theorem EvIs.clr (I : EvIs K G H ps σ env A) : ∀ {vs : List Nat} {env' : Ev}, clrO env vs = some env' → ∃ A', EvIs K G H ps (wipe σ vs) env' A' ∧ A'.Sublist A
  | [], env', e => by cases e; exact ⟨A, I, List.Sublist.refl _⟩
  | v :: vs, env', e => by
    obtain ⟨e1, q1, q2⟩ := Option.bind_eq_some_iff.mp (show (clrO env vs).bind _ = some env' from e)
    obtain ⟨A1, I1, s1⟩ := EvIs.clr I q1
    by_cases hp : isPar (getS e1 v) = true
    · rw [if_pos hp] at q2; cases q2
    · rw [if_neg hp] at q2
      cases q2
      obtain ⟨A2, I2, s2⟩ := I1.unset (i := v) (by simpa using hp)
      exact ⟨A2, I2, s2.trans s1⟩
theorem EvIs.reset : ∀ {ps : List V} {σ : L2.St} {env : Ev} {A : List Addr} {i : Nat} {o : Option V} {s : Slot}, EvIs K G H ps (σ.set i Option.none) env A → getS env i = .none → σ[i]? = some o → (s = .none ∨ ∃ x v, s = .loc (.d x) ∧ o = some v ∧ Is K G v x) → EvIs K G H ps σ (setS env i s) A
  | ps, [], env, A, i, o, s, I, hg, ho, h => by cases ho
  | ps, u :: σ, env, A, 0, o, s, I, hg, ho, h => by
    have ho : u = o := by simpa using ho
    subst ho
    have I : EvIs K G H ps (Option.none :: σ) env A := I
    cases I with
    | none r =>
      rcases h with rfl | ⟨x, v, rfl, rfl, hx⟩
      · exact .none r
      · exact .loc (A := []) (.d hx) r
  | ps, u :: σ, env, A, i + 1, o, s, I, hg, ho, h => by
    have I : EvIs K G H ps (u :: σ.set i Option.none) env A := I
    have ho : σ[i]? = some o := by simpa using ho
    cases I with
    | none r => exact .none (EvIs.reset r hg ho h)
    | loc h1 r => exact .loc h1 (EvIs.reset r hg ho h)
    | par h1 r => exact .par h1 (EvIs.reset r hg ho h)
theorem EvIs.length {ps : List V} {σ : L2.St} {env : Ev} {A : List Addr} (I : EvIs K G H ps σ env A) : σ.length = env.length := by
  induction I with
  | nil => rfl
  | none r ih => exact congrArg (· + 1) ih
  | loc h r ih => exact congrArg (· + 1) ih
  | par h r ih => exact congrArg (· + 1) ih
theorem getS_ge : ∀ {env : Ev} {i : Nat}, env.length ≤ i → getS env i = .none
  | [], _, _ => rfl
  | _ :: _, 0, h => by simp at h
  | _ :: r, i + 1, h => getS_ge (env := r) (by simpa using h)
theorem setS_ge : ∀ {env : Ev} {i : Nat} {s : Slot}, env.length ≤ i → setS env i s = env
  | [], _, _, _ => rfl
  | _ :: _, 0, _, h => by simp at h
  | x :: r, i + 1, s, h => congrArg (x :: ·) (setS_ge (env := r) (by simpa using h))
theorem setS_len : ∀ {env : Ev} {i : Nat} {s : Slot}, (setS env i s).length = env.length
  | [], _, _ => rfl
  | _ :: _, 0, _ => rfl
  | _ :: r, i + 1, s => congrArg (· + 1) (setS_len (env := r))
theorem getS_setS_self : ∀ {env : Ev} {i : Nat}, getS (setS env i .none) i = .none
  | [], _ => rfl
  | _ :: _, 0 => rfl
  | _ :: r, i + 1 => getS_setS_self (env := r)
theorem clr_none {env env' : Ev} : ∀ {vs : List Nat} {env' : Ev}, clrO env vs = some env' → ∀ v ∈ vs, getS env' v = .none
  | [], _, _, v, h => by cases h
  | w :: vs, env', e, v, h => by
    obtain ⟨e1, q1, q2⟩ := Option.bind_eq_some_iff.mp (show (clrO env vs).bind _ = some env' from e)
    by_cases hp : isPar (getS e1 w) = true
    · rw [if_pos hp] at q2; cases q2
    · rw [if_neg hp] at q2
      cases q2
      by_cases ew : w = v
      · subst ew; exact getS_setS_self
      · rw [getS_setS_ne ew]
        exact clr_none (env' := env') q1 v ((List.mem_cons.mp h).resolve_left (Ne.symm ew))
/-- what the slots held is there again -/
theorem EvIs.rst {G0 H0 : Hp} {A0 : List Addr} (I0 : EvIs K G0 H0 ps σ env0 A0) (s : Same G0 G) : ∀ {vs : List Nat} {env : Ev} {A : List Addr}, vs.Nodup → (∀ v ∈ vs, flatS (getS env0 v) = true) → (∀ v ∈ vs, getS env v = .none) → EvIs K G H ps (wipe σ vs) env A → EvIs K G H ps σ (rstO env0 vs env) A
  | [], env, A, _, _, _, I => I
  | v :: vs, env, A, nd, hf, hn, I => by
    obtain ⟨n1, n2⟩ := List.nodup_cons.mp nd
    unfold rstO
    refine EvIs.rst I0 s n2 (fun w hw => hf w (List.mem_cons_of_mem _ hw)) (fun w hw => ?_) ?_
    · rw [getS_setS_ne (fun e => n1 (by rw [e]; exact hw))]
      exact hn w (List.mem_cons_of_mem _ hw)
    · have I : EvIs K G H ps ((wipe σ vs).set v Option.none) env A := I
      by_cases hl : v < σ.length
      · have ho : (wipe σ vs)[v]? = some σ[v] := by rw [wipe_out n1, List.getElem?_eq_getElem hl]
        refine EvIs.reset I (hn v List.mem_cons_self) ho ?_
        have hfl := hf v List.mem_cons_self
        cases q : getS env0 v with
        | none => exact .inl rfl
        | par t => rw [q] at hfl; cases hfl
        | loc t =>
          rw [q] at hfl
          cases t with
          | d x =>
            obtain ⟨u, B, C, h1, h2, _⟩ := I0.tree (i := v) (t := .d x) (by rw [q]; rfl)
            rw [List.getElem?_eq_getElem hl] at h1
            cases h2 with
            | d h2 => exact .inr ⟨x, u, rfl, Option.some.inj h1, h2.up s⟩
          | _ => cases hfl
      · have hl : σ.length ≤ v := Nat.le_of_not_lt hl
        have e1 : (wipe σ vs).set v Option.none = wipe σ vs := List.set_eq_of_length_le (by rw [wipe_length]; exact hl)
        rw [e1] at I
        rw [setS_ge (by rw [← I.length, wipe_length]; exact hl)]
        exact I
end
/-! ### tests -/
structure RunTs (X : Cx) (ifs : List Expr) (σ : L2.St) (H : Hp) (Q : Bool → Hp → Prop) : Prop where of ::
  r : ∀ (pins : List (Addr × Obj)) (s : Shared), Inv X pins σ H s →
  wpAny (model X.prog X.w) X.A (forIn ifs true fun c r => if r = true then do let ok ← isTrue c X.env (eval c X.env); pure (ForInStep.yield ok) else pure (ForInStep.yield r)) (TP X pins σ Q) X.xe s
theorem pts_run {X : Cx} {ifs : List Expr} : PTs X ifs (RunTs X ifs) := ⟨fun pins s _ _ _ I h => h.r pins s I⟩
def STs (X : Cx) (W : WX) (ifs : List Expr) (d : Ev → Rs Bool) : Prop :=
  ∀ F ps σ G H A Q env, EvIs X.K G H ps σ env A → Rel F G H A → (d env).post (okT X F ps σ G Q) (exP X W F ps G) → RunTs X ifs σ H Q
def dYes : Ev → Rs Bool := fun env => .ok true env
section
variable {X : Cx} {W : WX} {F : Fm} {ps : List V} {σ : L2.St} {G H : Hp} {A : List Addr} {env : Ev} {β : Type} {ok : β → Ev → Prop} {ifs : List Expr} {e : Expr} {d : Ev → Rs Bool}
theorem STs.nil : STs X W [] dYes := fun F ps σ G H A Q env I R P => .of fun pins s J => pts_nil.run pins s σ H Q J (P G H A (Same.refl G) I R)
theorem STs.one (h : ST X W e d) : STs X W [e] d := fun F ps σ G H A Q env I R P => .of fun pins s J => (pts_one pt_run).run pins s σ H Q J (h F ps σ G H A Q env I R P)
theorem STs.seq {K1 : Bool → Hp → Prop} (h : STs X W ifs d) {f : Bool → Ev → Rs β} (I : EvIs X.K G H ps σ env A) (R : Rel F G H A) (P : ((d env).bind f).post ok (exP X W F ps G))
    (k : ∀ b env' G' H' A', Same G G' → EvIs X.K G' H' ps σ env' A' → Rel F G' H' A' → (f b env').post ok (exP X W F ps G') → K1 b H') : RunTs X ifs σ H K1 := by
  refine h F ps σ G H A K1 env I R ?_
  cases q : d env with
  | ok t env' =>
    rw [q] at P
    exact fun G' H' A' s I' R' => k t env' G' H' A' s I' R' (post_up s P)
  | exc c fs env' => rw [q] at P; exact P
  | stuck => rw [q] at P; exact P
end
/-! ### [elt for tg in iter if ..] -/
/-- nothing may be raised -/
def noX {α : Type} : Rs α → Rs α
  | .exc _ _ _ => .stuck
  | r => r
theorem noX_post {α β : Type} {r : Rs α} {f : α → Ev → Rs β} {ok : β → Ev → Prop} {ex ex' : XC → Fds → Ev → Prop} (P : ((noX r).bind f).post ok ex) : r.post (fun a e => (f a e).post ok ex) ex' := by
  cases r with
  | ok a e => exact P
  | exc c fs e => exact P.elim
  | stuck => exact P.elim
def clrR {α : Type} (a : α) (ws : List Nat) (env : Ev) : Rs α := match clrO env ws with
  | some e => .ok a e
  | none => .stuck
/-- a turn: what it adds -/
def turnE {ζ : Type} (ws : List Nat) (g : D → Ev → Option Ev) (t : Ev → Rs Bool) (em : Ev → Rs ζ) (x : D) (env : Ev) : Rs (Option ζ) := match g x env with
  | none => .stuck
  | some env1 => (t env1).bind fun b env => if b = true then (em env).bind fun y env => clrR (some y) ws env else clrR none ws env
/-- .. of a list -/
def emD (d : DE) : Ev → Rs D := fun env => (d env).bindD fun y env => .ok y env
abbrev turnD (ws : List Nat) (g : D → Ev → Option Ev) (t : Ev → Rs Bool) (d : DE) : D → Ev → Rs (Option D) := turnE ws g t (emD d)
def compL {ζ : Type} (tn : D → Ev → Rs (Option ζ)) : List D → Ev → Rs (List ζ)
  | [], env => .ok [] env
  | x :: xs, env => (noX (tn x env)).bind fun o env => (compL tn xs env).bind fun ys env => .ok (o.toList ++ ys) env
def okW (env : Ev) (ws : List Nat) : Bool := ws.all fun v => flatS (getS env v)
/-- the whole; N: how many turns at most -/
def dComp {ζ : Type} (N : Nat) (it : Ev → Rs (List D)) (ws : List Nat) (tn : D → Ev → Rs (Option ζ)) (f : List ζ → T) : DE := fun env => (it env).bind fun xs env => if xs.length < N ∧ okW env ws = true then (match clrO env ws with
  | some env1 => (compL tn xs env1).bind fun ys env2 => .ok (f ys) (rstO env ws env2)
  | none => .stuck) else .stuck
abbrev dLc (it : Ev → Rs (List D)) (ws : List Nat) (tn : D → Ev → Rs (Option D)) : DE := dComp 1000000 it ws tn .lst
abbrev Bk (X : Cx) (s : Shared) (H : Hp) (scope : Scope) (C : Addr) (cl : List (Str × Addr)) (fp : List Addr) : Cx := X.blk s H scope (compEnvC scope cl C X.env) fp
abbrev W0 : WX := fun _ _ _ _ => False
section
variable {X : Cx} {W : WX} {F : Fm} {ps : List V} {σ : L2.St} {G H : Hp} {A : List Addr} {env : Ev} {elt tg iter : Expr} {ifs : List Expr} {scope : Scope} {own : List (Str × Nat)} {pos : Pos} {it : Ev → Rs (List D)} {g : D → Ev → Option Ev} {t : Ev → Rs Bool} {d : DE}
/-- the readings of the block's parts, whatever the block -/
def gAll (X : Cx) (scope : Scope) (tg : Expr) : TG := fun v σ H Q => ∀ s H0 C cl fp, RunG (Bk X s H0 scope C cl fp) tg v σ H Q
def tAll (X : Cx) (scope : Scope) (ifs : List Expr) : L2.TT := fun σ H Q => ∀ s H0 C cl fp, RunTs (Bk X s H0 scope C cl fp) ifs σ H Q
def eAll (X : Cx) (scope : Scope) (e : Expr) : TE := fun σ H Q => ∀ s H0 C cl fp, RunE (Bk X s H0 scope C cl fp) e σ H Q
def iAll (X : Cx) (scope : Scope) (tg e : Expr) : TI := fun σ H Q => ∀ s H0 C cl fp, RunIter (Bk X s H0 scope C cl fp) tg e σ H Q
theorem post_bind {α β : Type} {r : Rs α} {f : α → Ev → Rs β} {ok : β → Ev → Prop} {ex : XC → Fds → Ev → Prop} (P : (r.bind f).post ok ex) : r.post (fun a e => (f a e).post ok ex) ex := by
  cases r with
  | ok a e => exact P
  | exc c fs e => exact P
  | stuck => exact P
/-- how a turn's end writes to the new object: Ac what it is by what was added -/
def Emits {ζ : Type} (X : Cx) (Dn : Addr) (N : Nat) (Ac : Hp → List ζ → HO → Prop) (em : Ev → Rs ζ) (Em : L2.St → Hp → (Hp → Prop) → Prop) : Prop := ∀ F ps σ G H A env (ads : List ζ) (o : HO) (Nx : Hp → Prop), EvIs X.K G H ps σ env A → Rel F G H A → ads.length < N → ¬ F.P Dn → F.H0 Dn = some o → Ac G ads o →
  (em env).post (fun z env' => ∀ G' H' A' o', Same G G' → EvIs X.K G' H' ps σ env' A' → Rel F G' H' A' → Ac G' (ads ++ [z]) o' → Nx (upd H' Dn o')) (exP X W0 F ps G) → Em σ H Nx
/-- a comprehension's loop -/
theorem loop_run {ζ : Type} {ws : List Nat} {N : Nat} {em : Ev → Rs ζ} {Em : L2.St → Hp → (Hp → Prop) → Prop} {Ac : Hp → List ζ → HO → Prop} {Dn : Addr} (up : ∀ G G' ads o, Same G G' → Ac G ads o → Ac G' ads o) (hem : Emits X Dn N Ac em Em) (hg : ∀ s H C cl fp, SGw (Bk X s H scope C cl fp) ws tg g) (ht : ∀ s H C cl fp, STs (Bk X s H scope C cl fp) W0 ifs t)
    {J : It} {G1 H1 : Hp} {xs : List D} (w : Walked X.K J G1 xs) {Nx : Hp → Prop}
    {A1 : List Addr} {env1 : Ev} {o1 : HO} {ads : List ζ} {ex : XC → Fds → Ev → Prop} (I1 : EvIs X.K G1 H1 ps (wipe σ ws) env1 A1) (hn1 : ∀ v ∈ ws, getS env1 v = .none) (R1 : Rel F G1 H1 (A1 ++ [Dn])) (hacc : H1 Dn = some o1) (iacc : Ac G1 ads o1) (hlen : ads.length + xs.length < N)
    (P : (compL (turnE ws g t em) xs env1).post (fun ys env' => ∀ G' H' A' o', Same G1 G' → EvIs X.K G' H' ps (wipe σ ws) env' A' → (∀ v ∈ ws, getS env' v = .none) → Rel F G' H' (A' ++ [Dn]) → H' Dn = some o' → Ac G' (ads ++ ys) o' → Nx H') ex) :
    ∃ Wl : Nat → Nat → Hp → Prop, (∃ m, Wl 0 m H1) ∧ ∀ i m H, Wl i m H → (J.stop i H ∧ Nx H) ∨ (J.go i H ∧ ∃ Nx1 : Hp → Prop, (∀ H', Nx1 H' → ∃ m', m' < m ∧ Wl (i + 1) m' H') ∧ ∀ x H', J.yld i H x H' → gAll X scope tg x (wipe σ ws) H' fun σ2 H2 => wipe σ2 ws = wipe σ ws ∧ tAll X scope ifs σ2 H2 fun b H3 =>
      if b = true then Em σ2 H3 Nx1 else Nx1 H3) := by
  obtain ⟨tn, htn⟩ : ∃ tn, tn = turnE ws g t em := ⟨_, rfl⟩
  rw [← htn] at P
  let Inv1 : Nat → Hp → Prop := fun i H => ∃ G2 A2 env2 o2 zs, Same G1 G2 ∧ EvIs X.K G2 H ps (wipe σ ws) env2 A2 ∧ (∀ v ∈ ws, getS env2 v = .none) ∧ Rel F G2 H (A2 ++ [Dn]) ∧ H Dn = some o2 ∧ Ac G2 (ads ++ zs) o2 ∧ zs.length ≤ i ∧
    (compL tn (xs.drop i) env2).post (fun ys env' => ∀ G' H' A' o', Same G1 G' → EvIs X.K G' H' ps (wipe σ ws) env' A' → (∀ v ∈ ws, getS env' v = .none) → Rel F G' H' (A' ++ [Dn]) → H' Dn = some o' → Ac G' (ads ++ (zs ++ ys)) o' → Nx H') ex
  refine ⟨fun i m H => m = xs.length - i ∧ i ≤ xs.length ∧ Inv1 i H, ⟨xs.length, by simp, Nat.zero_le _, G1, A1, env1, o1, [], Same.refl G1, I1, hn1, R1, hacc, by rw [List.append_nil]; exact iacc, Nat.le_refl _, by simpa using P⟩, ?_⟩
  rintro i m H2 ⟨rfl, hi2, G2, A3, env3, o3, zs, s2, I3, hn3, R3, hacc3, iacc3, lacc, P2⟩
  by_cases hl : i < xs.length
  · refine .inr ⟨w.go F i G2 H2 _ hl R3 s2, Inv1 (i + 1), fun H' z => ⟨xs.length - (i + 1), by omega, rfl, hl, z⟩, fun v H3 y => ?_⟩
    obtain ⟨G3, s3, R4, k3, i3⟩ := w.yl F i _ v G2 H2 H3 _ (List.getElem?_eq_getElem hl) R3 s2 y
    have I4 : EvIs X.K G3 H3 ps (wipe σ ws) env3 A3 := I3.up s3 fun a ha => k3 a (List.mem_append_left _ ha)
    have hacc4 : H3 Dn = some o3 := by rw [k3 Dn (List.mem_append_right _ List.mem_cons_self)]; exact hacc3
    have e : xs.drop i = xs[i] :: xs.drop (i + 1) := List.drop_eq_getElem_cons hl
    rw [e] at P2
    unfold compL at P2
    have P3 := noX_post (ex' := fun _ _ _ => False) P2
    have e3 : tn xs[i] env3 = (match g xs[i] env3 with
      | none => .stuck
      | some env1 => (t env1).bind fun b env => if b = true then (em env).bind fun y env => clrR (some y) ws env else clrR none ws env) := by rw [htn]; rfl
    rw [e3] at P3
    have fin : ∀ {G6 H6 : Hp} {A6 : List Addr} {env6 : Ev} {σ4 : L2.St} {o : Option ζ} {o6 : HO}, Same G3 G6 → wipe σ4 ws = wipe σ ws → EvIs X.K G6 H6 ps σ4 env6 A6 → Rel F G6 H6 (A6 ++ [Dn]) → H6 Dn = some o6 → Ac G6 (ads ++ zs ++ o.toList) o6 → 
        (clrR o ws env6).post (fun a e => ((compL tn (xs.drop (i + 1)) e).bind fun ys env => .ok (a.toList ++ ys) env).post (fun ys env' => ∀ G' H' A' o', Same G1 G' → EvIs X.K G' H' ps (wipe σ ws) env' A' → (∀ v ∈ ws, getS env' v = .none) → Rel F G' H' (A' ++ [Dn]) → H' Dn = some o' → Ac G' (ads ++ (zs ++ ys)) o' → Nx H') ex) (fun _ _ _ => False) → Inv1 (i + 1) H6 := by
      intro G6 H6 A6 env6 σ4 o o6 s6 hw I6 R6 ha6 ia6 P6
      unfold clrR at P6
      cases q3 : clrO env6 ws with
      | none => rw [q3] at P6; exact P6.elim
      | some env7 =>
        rw [q3] at P6
        obtain ⟨A7, I9, sl7⟩ := I6.clr q3
        rw [hw] at I9
        have r9 : Rel F G6 H6 (A7 ++ [Dn]) := R6.sub (fun a ha => (List.Sublist.append_right sl7 _).subset ha) ((List.Sublist.append_right sl7 _).nodup R6.nd)
        refine ⟨G6, A7, env7, o6, zs ++ o.toList, s2.trans (s3.trans s6), I9, clr_none (env' := env7) q3, r9, ha6, by rw [← List.append_assoc]; exact ia6, ?_, ?_⟩
        · rw [List.length_append]
          have : o.toList.length ≤ 1 := by cases o <;> simp
          omega
        have P7 : ((compL tn (xs.drop (i + 1)) env7).bind fun ys env => Rs.ok (o.toList ++ ys) env).post (fun ys env' => ∀ G' H' A' o', Same G1 G' → EvIs X.K G' H' ps (wipe σ ws) env' A' → (∀ v ∈ ws, getS env' v = .none) → Rel F G' H' (A' ++ [Dn]) → H' Dn = some o' → Ac G' (ads ++ (zs ++ ys)) o' → Nx H') ex := P6
        refine (post_bind P7).imp (fun ys env' _ z => ?_) fun _ _ _ _ h => h
        have z : ∀ G' H' A' o', Same G1 G' → EvIs X.K G' H' ps (wipe σ ws) env' A' → (∀ v ∈ ws, getS env' v = .none) → Rel F G' H' (A' ++ [Dn]) → H' Dn = some o' → Ac G' (ads ++ (zs ++ (o.toList ++ ys))) o' → Nx H' := z
        rw [← List.append_assoc zs] at z
        exact z
    cases q2 : g xs[i] env3 with
    | none => rw [q2] at P3; exact P3.elim
    | some env4 =>
      rw [q2] at P3
      dsimp only at P3
      intro sB HB CB clB fpB
      refine hg sB HB CB clB fpB ⟨G3, H3, fun a => a ∈ A3⟩ ps (wipe σ ws) G3 H3 A3 v _ env3 env4 _ I4 (R4.start (fun b hb => List.mem_append_left _ hb) R4.left.nd) i3 q2 fun σ4 A4 I5 R5 hw4 => ⟨hw4.trans wipe_wipe, ?_⟩
      rw [wipe_wipe] at hw4
      intro sC HC CC clC fpC
      refine (ht sC HC CC clC fpC).seq (ok := fun a e => ((compL tn (xs.drop (i + 1)) e).bind fun ys env => .ok (a.toList ++ ys) env).post (fun ys env' => ∀ G' H' A' o', Same G1 G' → EvIs X.K G' H' ps (wipe σ ws) env' A' → (∀ v ∈ ws, getS env' v = .none) → Rel F G' H' (A' ++ [Dn]) → H' Dn = some o' → Ac G' (ads ++ (zs ++ ys)) o' → Nx H') ex) I5 R5 (P3.imp (fun _ _ _ h => h) fun _ _ _ _ h => h.elim) fun b env5 G5 H5 A5 s5 I6 R6 P4 => ?_
      have nP : Dn ∉ A3 := fun z => R4.dj Dn List.mem_cons_self z
      cases b with
      | true =>
        show Em σ4 H5 _
        have P4 := post_bind (show ((em env5).bind fun y env => clrR (some y) ws env).post _ _ from P4)
        have ia5 := up _ _ _ _ (s3.trans R6.g) iacc3
        refine hem ⟨G3, H3, fun a => a ∈ A3⟩ ps σ4 G5 H5 A5 env5 (ads ++ zs) o3 _ I6 R6 (by rw [List.length_append]; omega) nP hacc4 ia5 (P4.imp (fun z env6 _ P5 => ?_) fun _ _ _ _ h => h)
        intro G6 H6 A6 o6 s6 I7 R7 ia6
        obtain ⟨r8, s8, k8⟩ := Rel.back (B := A3) (A := [Dn]) R4 R7
        have nD6 : ∀ a ∈ A6, a ≠ Dn := fun a ha e => r8.dj Dn List.mem_cons_self (e ▸ ha)
        refine fin (o := some z) s8 hw4 (I7.up (Same.refl G6) (upd_off nD6)) (r8.put (List.mem_append_right _ List.mem_cons_self)) upd_same ia6 (P5.imp (fun _ _ _ h => h) fun c fs e' q _ => ?_)
        unfold clrR at q
        cases q3 : clrO env6 ws with
        | none => rw [q3] at q; cases q
        | some _ => rw [q3] at q; cases q
      | false =>
        obtain ⟨r8, s8, k8⟩ := Rel.back (B := A3) (A := [Dn]) R4 R6
        have hacc6 : H5 Dn = some o3 := by rw [k8 Dn List.mem_cons_self]; exact hacc4
        have P4 : (clrR (none : Option ζ) ws env5).post _ _ := P4
        refine fin (o := none) s8 hw4 I6 r8 hacc6 (by simpa using up _ _ _ _ (s3.trans s8) iacc3) (P4.imp (fun _ _ _ h => h) fun c fs e' q _ => ?_)
        unfold clrR at q
        cases q3 : clrO env5 ws with
        | none => rw [q3] at q; cases q
        | some _ => rw [q3] at q; cases q
  · have e : i = xs.length := by omega
    subst e
    rw [List.drop_length] at P2
    have P2 := P2 G2 H2 A3 o3 s2 I3 hn3 R3 hacc3
    rw [List.append_nil] at P2
    exact .inl ⟨w.st F G2 H2 _ R3 s2, P2 iacc3⟩
/-- the whole, up to the reading of the new object -/
theorem comp_run {ζ : Type} {N : Nat} {em : Ev → Rs ζ} {Em : Addr → L2.St → Hp → (Hp → Prop) → Prop} {Ac : Addr → Hp → List ζ → HO → Prop} {f : List ζ → T} {o0 : Addr → HO} {vs : List Nat} (up : ∀ Dn G G' ads o, Same G G' → Ac Dn G ads o → Ac Dn G' ads o) (h0 : ∀ Dn G, Ac Dn G [] (o0 Dn)) (hem : ∀ Dn, Emits X Dn N (Ac Dn) em (Em Dn)) (hg : ∀ s H C cl fp, SGw (Bk X s H scope C cl fp) vs tg g) (ht : ∀ s H C cl fp, STs (Bk X s H scope C cl fp) W0 ifs t)
    (hi : SI X W tg iter it) (nd : vs.Nodup)
    {Q : VK} (I : EvIs X.K G H ps σ env A) (R : Rel F G H A) (P : (dComp N it vs (turnE vs g t em) f env).post (fun u env' => ∀ Dn G' H' A' o ads, u = f ads → Same G G' → EvIs X.K G' H' ps σ env' A' → Rel F G' H' ([Dn] ++ A') → H' Dn = some o → Ac Dn G' ads o → Q (.ref Dn) H') (exP X W F ps G)) :
    RunIter X tg iter σ H fun J H1 => ∀ Dn, H1 Dn = none → ∃ W : Nat → Nat → Hp → Prop, (∃ m, W 0 m (upd H1 Dn (o0 Dn))) ∧ ∀ i m H, W i m H →
      (J.stop i H ∧ Q (.ref Dn) H) ∨ (J.go i H ∧ ∃ Nx : Hp → Prop, (∀ H', Nx H' → ∃ m', m' < m ∧ W (i + 1) m' H') ∧ ∀ x H', J.yld i H x H' → gAll X scope tg x (wipe σ vs) H' fun σ2 H2 => wipe σ2 vs = wipe σ vs ∧ tAll X scope ifs σ2 H2 fun b H3 =>
        if b = true then Em Dn σ2 H3 Nx else Nx H3) := by
  refine hi F ps σ G H A _ env I R ?_
  unfold dComp at P
  cases q0 : it env with
  | stuck => rw [q0] at P; exact P.elim
  | exc c fs env1 => rw [q0] at P; exact P
  | ok xs env1 =>
    rw [q0] at P
    have P : (if xs.length < N ∧ okW env1 vs = true then (match clrO env1 vs with
      | some env2 => (compL (turnE vs g t em) xs env2).bind fun ys env3 => Rs.ok (f ys) (rstO env1 vs env3)
      | none => .stuck) else .stuck).post (fun u env' => ∀ Dn G' H' A' o ads, u = f ads → Same G G' → EvIs X.K G' H' ps σ env' A' → Rel F G' H' ([Dn] ++ A') → H' Dn = some o → Ac Dn G' ads o → Q (.ref Dn) H') (exP X W F ps G) := P
    by_cases hz : xs.length < N ∧ okW env1 vs = true
    · rw [if_pos hz] at P
      cases q1 : clrO env1 vs with
      | none => rw [q1] at P; exact P.elim
      | some env2 =>
        rw [q1] at P
        have P := post_bind (show ((compL (turnE vs g t em) xs env2).bind fun ys env3 => Rs.ok (f ys) (rstO env1 vs env3)).post _ _ from P)
        intro J G1 H1 A1 s1 I1 R1 w Dn hD
        have hflat : ∀ v ∈ vs, flatS (getS env1 v) = true := fun v hv => List.all_eq_true.mp hz.2 v hv
        obtain ⟨A2, I2, sl2⟩ := I1.clr q1
        have R2 : Rel F G1 (upd H1 Dn (o0 Dn)) (A2 ++ [Dn]) := by
          have r := (R1.sub (fun a ha => sl2.subset ha) (sl2.nodup R1.nd)).mine (o := o0 Dn) hD
          exact r.perm (by show (Dn :: A2).Perm _; exact (List.perm_append_singleton Dn A2).symm)
        have nD : ∀ a ∈ A2, a ≠ Dn := fun a ha => R1.ne hD a (sl2.subset ha)
        refine loop_run (up Dn) (hem Dn) hg ht w (ads := []) (I2.up (Same.refl G1) (upd_off nD)) (clr_none (env' := env2) q1) R2 upd_same (h0 Dn G1) (by simpa using hz.1) (P.imp (fun ys env3 _ z => ?_) fun _ _ _ _ h => h)
        intro G2 H2 A3 o s2 I3 hn3 R3 hacc iacc
        exact z Dn G2 H2 A3 o ys rfl (s1.trans s2) (EvIs.rst I1 s2 nd hflat hn3 I3) (R3.perm List.perm_append_comm) hacc iacc
    · rw [if_neg hz] at P; exact P.elim
/-- lists -/
def AcL (K : PySem.W.Frag) (G : Hp) (ads : List D) (o : HO) : Prop := ∃ acc, o = .lst acc ∧ IsL K G acc ads
theorem acL_up {K : PySem.W.Frag} (G G' : Hp) (ads : List D) (o : HO) (s : Same G G') : AcL K G ads o → AcL K G' ads o := fun ⟨acc, e, r⟩ => ⟨acc, e, r.up s⟩
theorem emits_lst (he : ∀ s H C cl fp, SE (Bk X s H scope C cl fp) W0 elt d) (Dn : Addr) : Emits X Dn 1000000 (AcL X.K) (emD d) fun σ2 H3 Nx => eAll X scope elt σ2 H3 fun y H4 => ∃ acc, H4 Dn = some (.lst acc) ∧ acc.length < sizeLine ∧ Nx (upd H4 Dn (.lst (acc ++ [y]))) := by
  intro F ps σ G H A env ads o Nx I R hl hP h0 ⟨acc, eo, ia⟩ P sD HD CD clD fpD
  subst eo
  refine (he sD HD CD clD fpD).seqD I R (show ((d env).bindD fun y env => Rs.ok y env).post _ _ from P) fun z env6 vz G6 H6 A6 s6 I7 i7 R7 P5 => ?_
  refine ⟨acc, R7.keep Dn _ hP h0, Nat.lt_of_lt_of_le (by rw [ia.length]; exact hl) (Nat.le_of_lt sqLine), ?_⟩
  exact P5 G6 H6 A6 _ s6 I7 R7 ⟨acc ++ [vz], rfl, (ia.up s6).snoc i7⟩
theorem lc_run (hg : ∀ s H C cl fp, SGw (Bk X s H scope C cl fp) (own.map (·.2)) tg g) (ht : ∀ s H C cl fp, STs (Bk X s H scope C cl fp) W0 ifs t) (he : ∀ s H C cl fp, SE (Bk X s H scope C cl fp) W0 elt d) (hi : SI X W tg iter it) (nd : (own.map (·.2)).Nodup)
    {Q : VK} (I : EvIs X.K G H ps σ env A) (R : Rel F G H A) (P : (dLc it (own.map (·.2)) (turnD (own.map (·.2)) g t d) env).post (okE X F ps σ G Q) (exP X W F ps G)) :
    tLc (RunIter X tg iter) (gAll X scope tg) (tAll X scope ifs) (eAll X scope elt) (own.map (·.2)) σ H Q :=
  comp_run (o0 := fun _ => .lst []) (f := T.lst) (Ac := fun _ => AcL X.K) (fun _ => acL_up) (fun _ _ => ⟨[], rfl, .nil⟩) (emits_lst he) hg ht hi nd I R (P.imp (fun u env' _ h Dn G' H' A' o ads e s' I' R' ho ⟨acc, eo, ia⟩ => h (.ref Dn) G' H' A' [Dn] s' I' (by subst e eo; exact .lst ho ia) R') fun _ _ _ _ h => h)
theorem SE.lc (hc : X.calm = true) (hN : X.N.Nodup) (ok : BlkOk X.N X.env.scope scope own) (nd : (own.map (·.2)).Nodup) (hs : ∀ x, foldedSetIterable iter X.env x = pure x) (hi : SI X W tg iter it)
    (hg : ∀ s H C cl fp, SGw (Bk X s H scope C cl fp) (own.map (·.2)) tg g) (ht : ∀ s H C cl fp, STs (Bk X s H scope C cl fp) W0 ifs t) (he : ∀ s H C cl fp, SE (Bk X s H scope C cl fp) W0 elt d) :
    SE X W (.ListComp elt [⟨tg, iter, ifs, 0⟩] scope pos) (dLc it (own.map (·.2)) (turnD (own.map (·.2)) g t d)) := fun F ps σ G H A Q env I R P =>
  PE.go (pe_lc hc hN pi_run ok (fun s H C cl fp => ⟨fun pins s' σ H' v u Q J r h => (h s H C cl fp).r pins s' u J r⟩) (fun s H C cl fp => ⟨fun pins s' σ H' Q J h => (h s H C cl fp).r pins s' J⟩) (fun s H C cl fp => ⟨fun pins s' σ H' Q J h => (h s H C cl fp).r pins s' J⟩) hs) (lc_run hg ht he hi nd I R P)
/-- name = [..] on one line -/
theorem SS.setLc {x : Str} {i : Nat} {py spos : Pos} (hc : X.calm = true) (hN : X.N.Nodup) (hy : X.N[i]? = some x) (hyl : X.env.scope.names.lookup x = some .local) (hsw : swapsWith (.ListComp elt [⟨tg, iter, ifs, 0⟩] scope pos) (some (.Name x py)) spos.line X.env = pure true) (ok : BlkOk X.N X.env.scope scope own) (nd : (own.map (·.2)).Nodup) (hs : ∀ x, foldedSetIterable iter X.env x = pure x) (hi : SI X W tg iter it)
    (hg : ∀ s H C cl fp, SGw (Bk X s H scope C cl fp) (own.map (·.2)) tg g) (ht : ∀ s H C cl fp, STs (Bk X s H scope C cl fp) W0 ifs t) (he : ∀ s H C cl fp, SE (Bk X s H scope C cl fp) W0 elt d) :
    SS X W (.Assign [.Name x py] (.ListComp elt [⟨tg, iter, ifs, 0⟩] scope pos) spos) (dSet i (dLc it (own.map (·.2)) (turnD (own.map (·.2)) g t d))) := fun F ps σ G H A D env I R P => by
  refine PS.go (ps_setLc hc hN hy hyl hsw pi_run ok (fun s H C cl fp => ⟨fun pins s' σ H' v u Q J r h => (h s H C cl fp).r pins s' u J r⟩) (fun s H C cl fp => ⟨fun pins s' σ H' Q J h => (h s H C cl fp).r pins s' J⟩) (fun s H C cl fp => ⟨fun pins s' σ H' Q J h => (h s H C cl fp).r pins s' J⟩) hs) (lc_run hg ht he hi nd I R ?_)
  unfold dSet at P
  cases q : dLc it (own.map (·.2)) (turnD (own.map (·.2)) g t d) env with
  | stuck => rw [q] at P; exact P.elim
  | exc c fs env1 => rw [q] at P; exact P
  | ok u env1 =>
    rw [q] at P
    intro v G1 H1 A1 B s1 I1 i1 R1
    have P : (nxO (putS i u env1)).post (okS X F ps D G) (exP X W F ps G) := P
    cases q2 : putS i u env1 with
    | none => rw [q2] at P; exact P.elim
    | some env2 =>
      rw [q2] at P
      obtain ⟨A2, I2, R2⟩ := putS_run I1 R1 i1 q2
      exact P _ G1 H1 A2 s1 I2 R2
end
end Dn

namespace Dn
open PySem PySem.Spec PyProof.Rows L2
/-! ### [elt for tg in iter if .. for tg1 in iter1 if ..] -/
def turn2 (ws ws1 : List Nat) (g : D → Ev → Option Ev) (t : Ev → Rs Bool) (it1 : Ev → Rs (List D)) (tn1 : D → Ev → Rs (Option D)) (n : Nat) (x : D) (env : Ev) : Rs (List D) := match g x env with
  | none => .stuck
  | some env1 => (t env1).bind fun b env => if b = true then (it1 env).bind fun xs1 env => if n + xs1.length < 1000000 then (match clrO env ws1 with
      | some e => (compL tn1 xs1 e).bind fun ys env => clrR ys ws env
      | none => .stuck) else .stuck
    else clrR [] ws env
def comp2 (tn2 : Nat → D → Ev → Rs (List D)) : Nat → List D → Ev → Rs (List D)
  | _, [], env => .ok [] env
  | n, x :: xs, env => (noX (tn2 n x env)).bind fun ys env => (comp2 tn2 (n + ys.length) xs env).bind fun zs env => .ok (ys ++ zs) env
def dLc2 (it : Ev → Rs (List D)) (ws : List Nat) (tn2 : Nat → D → Ev → Rs (List D)) : DE := fun env => (it env).bind fun xs env => if okW env ws = true then (match clrO env ws with
  | some env1 => (comp2 tn2 0 xs env1).bind fun ys env2 => .ok (.lst ys) (rstO env ws env2)
  | none => .stuck) else .stuck
theorem wipe_sub {σ : L2.St} {ws ws1 : List Nat} (h : ∀ i ∈ ws1, i ∈ ws) : wipe (wipe σ ws1) ws = wipe σ ws := by
  apply List.ext_getElem?
  intro j
  by_cases hj : j ∈ ws
  · by_cases hl : j < σ.length
    · rw [wipe_get hj hl, wipe_get hj (by rw [wipe_length]; exact hl)]
    · rw [List.getElem?_eq_none (by rw [wipe_length, wipe_length]; omega), List.getElem?_eq_none (by rw [wipe_length]; omega)]
  · rw [wipe_out hj, wipe_out (fun z => hj (h j z)), wipe_out hj]
section
variable {X : Cx} {W : WX} {F : Fm} {ps : List V} {σ : L2.St} {G H : Hp} {A : List Addr} {env : Ev} {elt tg iter tg1 iter1 : Expr} {ifs ifs1 : List Expr} {scope : Scope} {own : List (Str × Nat)} {ws1 : List Nat} {pos : Pos} {it it1 : Ev → Rs (List D)} {g g1 : D → Ev → Option Ev} {t t1 : Ev → Rs Bool} {d : DE}
theorem lc2_run (hg : ∀ s H C cl fp, SGw (Bk X s H scope C cl fp) (own.map (·.2)) tg g) (ht : ∀ s H C cl fp, STs (Bk X s H scope C cl fp) W0 ifs t) (hi1 : ∀ s H C cl fp, SI (Bk X s H scope C cl fp) W0 tg1 iter1 it1)
    (hg1 : ∀ s H C cl fp, SGw (Bk X s H scope C cl fp) ws1 tg1 g1) (ht1 : ∀ s H C cl fp, STs (Bk X s H scope C cl fp) W0 ifs1 t1) (he : ∀ s H C cl fp, SE (Bk X s H scope C cl fp) W0 elt d) (hi : SI X W tg iter it) (nd : (own.map (·.2)).Nodup) (hv : ∀ i ∈ ws1, i ∈ own.map (·.2))
    {Q : VK} (I : EvIs X.K G H ps σ env A) (R : Rel F G H A) (P : (dLc2 it (own.map (·.2)) (turn2 (own.map (·.2)) ws1 g t it1 (turnD ws1 g1 t1 d)) env).post (okE X F ps σ G Q) (exP X W F ps G)) :
    tLc2 (RunIter X tg iter) (gAll X scope tg) (tAll X scope ifs) (iAll X scope tg1 iter1) (gAll X scope tg1) (tAll X scope ifs1) (eAll X scope elt) (own.map (·.2)) ws1 σ H Q := by
  generalize hws : own.map (·.2) = ws at *
  refine hi F ps σ G H A _ env I R ?_
  obtain ⟨tn, htn⟩ : ∃ tn, tn = turn2 ws ws1 g t it1 (turnD ws1 g1 t1 d) := ⟨_, rfl⟩
  rw [← htn] at P
  unfold dLc2 at P
  cases q0 : it env with
  | stuck => rw [q0] at P; exact P.elim
  | exc c fs env1 => rw [q0] at P; exact P
  | ok xs env1 =>
    rw [q0] at P
    have P : (if okW env1 ws = true then (match clrO env1 ws with
      | some env2 => (comp2 tn 0 xs env2).bind fun ys env3 => Rs.ok (T.lst ys) (rstO env1 ws env3)
      | none => .stuck) else .stuck).post (okE X F ps σ G Q) (exP X W F ps G) := P
    by_cases hz : okW env1 ws = true
    · rw [if_pos hz] at P
      cases q1 : clrO env1 ws with
      | none => rw [q1] at P; exact P.elim
      | some env2 =>
        rw [q1] at P
        have P : ((comp2 tn 0 xs env2).bind fun ys env3 => Rs.ok (T.lst ys) (rstO env1 ws env3)).post (okE X F ps σ G Q) (exP X W F ps G) := P
        intro J G1 H1 A1 s1 I1 R1 w Dn hD
        have hflat : ∀ v ∈ ws, flatS (getS env1 v) = true := fun v hv => List.all_eq_true.mp hz v hv
        obtain ⟨A2, I2, sl2⟩ := I1.clr q1
        have R2 : Rel F G1 (upd H1 Dn (.lst [])) (A2 ++ [Dn]) := by
          have r := (R1.sub (fun a ha => sl2.subset ha) (sl2.nodup R1.nd)).mine (o := .lst []) hD
          exact r.perm (by show (Dn :: A2).Perm _; exact (List.perm_append_singleton Dn A2).symm)
        have nD : ∀ a ∈ A2, a ≠ Dn := fun a ha => R1.ne hD a (sl2.subset ha)
        let Inv1 : Nat → Hp → Prop := fun i H => ∃ G2 A2 env2 acc zs, Same G1 G2 ∧ EvIs X.K G2 H ps (wipe σ ws) env2 A2 ∧ (∀ v ∈ ws, getS env2 v = .none) ∧ Rel F G2 H (A2 ++ [Dn]) ∧ H Dn = some (.lst acc) ∧ IsL X.K G2 acc zs ∧
          (comp2 tn zs.length (xs.drop i) env2).post (fun ys env' => okE X F ps σ G Q (.lst (zs ++ ys)) (rstO env1 ws env')) (exP X W F ps G)
        refine ⟨fun i m H => m = xs.length - i ∧ i ≤ xs.length ∧ Inv1 i H, ⟨xs.length, by simp, Nat.zero_le _, G1, A2, env2, [], [], Same.refl G1, I2.up (Same.refl G1) (upd_off nD), clr_none (env' := env2) q1, R2, upd_same, .nil, by rw [List.drop_zero]; exact post_bind P⟩, ?_⟩
        rintro i m H2 ⟨rfl, hi2, G2, A3, env3, acc3, zs, s2, I3, hn3, R3, hacc3, iacc3, P2⟩
        by_cases hl : i < xs.length
        · refine .inr ⟨w.go F i G2 H2 _ hl R3 s2, Inv1 (i + 1), fun H' z => ⟨xs.length - (i + 1), by omega, rfl, hl, z⟩, fun v H3 y => ?_⟩
          obtain ⟨G3, s3, R4, k3, i3⟩ := w.yl F i _ v G2 H2 H3 _ (List.getElem?_eq_getElem hl) R3 s2 y
          have I4 : EvIs X.K G3 H3 ps (wipe σ ws) env3 A3 := I3.up s3 fun a ha => k3 a (List.mem_append_left _ ha)
          have hacc4 : H3 Dn = some (.lst acc3) := by rw [k3 Dn (List.mem_append_right _ List.mem_cons_self)]; exact hacc3
          have e : xs.drop i = xs[i] :: xs.drop (i + 1) := List.drop_eq_getElem_cons hl
          rw [e] at P2
          unfold comp2 at P2
          have P3 := noX_post (ex' := fun _ _ _ => False) P2
          have e3 : tn zs.length xs[i] env3 = (match g xs[i] env3 with
            | none => .stuck
            | some env1 => (t env1).bind fun b env => if b = true then (it1 env).bind fun xs1 env => if zs.length + xs1.length < 1000000 then (match clrO env ws1 with
                | some e => (compL (turnD ws1 g1 t1 d) xs1 e).bind fun ys env => clrR ys ws env
                | none => .stuck) else .stuck
              else clrR [] ws env) := by rw [htn]; rfl
          rw [e3] at P3
          have fin : ∀ {G6 H6 : Hp} {A6 : List Addr} {env6 : Ev} {σ4 : L2.St} {o : List D} {acc6 : List V}, Same G3 G6 → wipe σ4 ws = wipe σ ws → EvIs X.K G6 H6 ps σ4 env6 A6 → Rel F G6 H6 (A6 ++ [Dn]) → H6 Dn = some (.lst acc6) → IsL X.K G6 acc6 (zs ++ o) → 
              (clrR o ws env6).post (fun a e => ((comp2 tn (zs.length + a.length) (xs.drop (i + 1)) e).bind fun ys env => .ok (a ++ ys) env).post (fun ys env' => okE X F ps σ G Q (.lst (zs ++ ys)) (rstO env1 ws env')) (exP X W F ps G)) (fun _ _ _ => False) → Inv1 (i + 1) H6 := by
            intro G6 H6 A6 env6 σ4 o acc6 s6 hw I6 R6 ha6 ia6 P6
            unfold clrR at P6
            cases q3 : clrO env6 ws with
            | none => rw [q3] at P6; exact P6.elim
            | some env7 =>
              rw [q3] at P6
              obtain ⟨A7, I9, sl7⟩ := I6.clr q3
              rw [hw] at I9
              have r9 : Rel F G6 H6 (A7 ++ [Dn]) := R6.sub (fun a ha => (List.Sublist.append_right sl7 _).subset ha) ((List.Sublist.append_right sl7 _).nodup R6.nd)
              refine ⟨G6, A7, env7, acc6, zs ++ o, s2.trans (s3.trans s6), I9, clr_none (env' := env7) q3, r9, ha6, ia6, ?_⟩
              have P7 : ((comp2 tn (zs.length + o.length) (xs.drop (i + 1)) env7).bind fun ys env => Rs.ok (o ++ ys) env).post (fun ys env' => okE X F ps σ G Q (.lst (zs ++ ys)) (rstO env1 ws env')) (exP X W F ps G) := P6
              rw [List.length_append]
              refine (post_bind P7).imp (fun ys env' _ z => ?_) fun _ _ _ _ h => h
              have z : okE X F ps σ G Q (.lst (zs ++ (o ++ ys))) (rstO env1 ws env') := z
              rw [← List.append_assoc zs] at z
              exact z
          cases q2 : g xs[i] env3 with
          | none => rw [q2] at P3; exact P3.elim
          | some env4 =>
            rw [q2] at P3
            dsimp only at P3
            intro sB HB CB clB fpB
            refine hg sB HB CB clB fpB ⟨G3, H3, fun a => a ∈ A3⟩ ps (wipe σ ws) G3 H3 A3 v _ env3 env4 _ I4 (R4.start (fun b hb => List.mem_append_left _ hb) R4.left.nd) i3 q2 fun σ4 A4 I5 R5 hw4 => ⟨hw4.trans wipe_wipe, ?_⟩
            rw [wipe_wipe] at hw4
            intro sC HC CC clC fpC
            refine (ht sC HC CC clC fpC).seq (ok := fun a e => ((comp2 tn (zs.length + a.length) (xs.drop (i + 1)) e).bind fun ys env => .ok (a ++ ys) env).post (fun ys env' => okE X F ps σ G Q (.lst (zs ++ ys)) (rstO env1 ws env')) (exP X W F ps G)) I5 R5 (P3.imp (fun _ _ _ h => h) fun _ _ _ _ h => h.elim) fun b env5 G5 H5 A5 s5 I6 R6 P4 => ?_
            cases b with
            | true =>
              show iAll X scope tg1 iter1 σ4 H5 _
              intro sD HD CD clD fpD
              refine hi1 sD HD CD clD fpD ⟨G3, H3, fun a => a ∈ A3⟩ ps σ4 G5 H5 A5 _ env5 I6 R6 ?_
              have P4 := post_bind P4
              refine P4.imp (fun xs1 env6 _ P5 => ?_) fun _ _ _ _ h => h
              intro J1 G6 H6 A6 s6 I7 R7 w1
              by_cases hz1 : zs.length + xs1.length < 1000000
              · rw [if_pos hz1] at P5
                cases q4 : clrO env6 ws1 with
                | none => rw [q4] at P5; exact P5.elim
                | some env7 =>
                  rw [q4] at P5
                  have P5 := post_bind P5
                  obtain ⟨r8, s8, k8⟩ := Rel.back (B := A3) (A := [Dn]) R4 R7
                  have hacc6 : H6 Dn = some (.lst acc3) := by rw [k8 Dn List.mem_cons_self]; exact hacc4
                  obtain ⟨A7, I8, sl7⟩ := I7.clr q4
                  have r9 : Rel F G6 H6 (A7 ++ [Dn]) := r8.sub (fun a ha => (List.Sublist.append_right sl7 _).subset ha) ((List.Sublist.append_right sl7 _).nodup r8.nd)
                  have ia6 := iacc3.up (s3.trans s8)
                  refine loop_run (N := 1000000) (ads := zs) acL_up (emits_lst he Dn) hg1 ht1 w1 I8 (clr_none (env' := env7) q4) r9 hacc6 ⟨acc3, rfl, ia6⟩ hz1 (P5.imp (fun ys env8 _ P6 => ?_) fun _ _ _ _ h => h)
                  rintro G9 H9 A9 o9 s9 I9 hn9 R9 ha9 ⟨acc9, rfl, ia9⟩
                  refine fin (o := ys) (s8.trans s9) ((wipe_sub hv).trans hw4) I9 R9 ha9 ia9 (P6.imp (fun _ _ _ h => h) fun c fs e' q _ => ?_)
                  unfold clrR at q
                  cases q5 : clrO env8 ws with
                  | none => rw [q5] at q; cases q
                  | some _ => rw [q5] at q; cases q
              · rw [if_neg hz1] at P5; exact P5.elim
            | false =>
              obtain ⟨r8, s8, k8⟩ := Rel.back (B := A3) (A := [Dn]) R4 R6
              have hacc6 : H5 Dn = some (.lst acc3) := by rw [k8 Dn List.mem_cons_self]; exact hacc4
              have P4 : (clrR ([] : List D) ws env5).post _ _ := P4
              refine fin (o := []) s8 hw4 I6 r8 hacc6 (by simpa using iacc3.up (s3.trans s8)) (P4.imp (fun _ _ _ h => h) fun c fs e' q _ => ?_)
              unfold clrR at q
              cases q3 : clrO env5 ws with
              | none => rw [q3] at q; cases q
              | some _ => rw [q3] at q; cases q
        · have e : i = xs.length := by omega
          subst e
          rw [List.drop_length] at P2
          have P2 : okE X F ps σ G Q (.lst (zs ++ [])) (rstO env1 ws env3) := P2
          rw [List.append_nil] at P2
          exact .inl ⟨w.st F G2 H2 _ R3 s2, P2 (.ref Dn) G2 H2 A3 [Dn] (s1.trans s2) (EvIs.rst I1 s2 nd hflat hn3 I3) (.lst hacc3 iacc3) (R3.perm List.perm_append_comm)⟩
    · rw [if_neg hz] at P; exact P.elim
theorem SE.lc2 (hc : X.calm = true) (hN : X.N.Nodup) (ok : BlkOk X.N X.env.scope scope own) (nd : (own.map (·.2)).Nodup) (hv : ∀ i ∈ ws1, i ∈ own.map (·.2)) (hs : ∀ x, foldedSetIterable iter X.env x = pure x) (hs1 : ∀ env x, foldedSetIterable iter1 env x = pure x) (hi : SI X W tg iter it)
    (hg : ∀ s H C cl fp, SGw (Bk X s H scope C cl fp) (own.map (·.2)) tg g) (ht : ∀ s H C cl fp, STs (Bk X s H scope C cl fp) W0 ifs t) (hi1 : ∀ s H C cl fp, SI (Bk X s H scope C cl fp) W0 tg1 iter1 it1)
    (hg1 : ∀ s H C cl fp, SGw (Bk X s H scope C cl fp) ws1 tg1 g1) (ht1 : ∀ s H C cl fp, STs (Bk X s H scope C cl fp) W0 ifs1 t1) (he : ∀ s H C cl fp, SE (Bk X s H scope C cl fp) W0 elt d) :
    SE X W (.ListComp elt [⟨tg, iter, ifs, 0⟩, ⟨tg1, iter1, ifs1, 0⟩] scope pos) (dLc2 it (own.map (·.2)) (turn2 (own.map (·.2)) ws1 g t it1 (turnD ws1 g1 t1 d))) := fun F ps σ G H A Q env I R P =>
  PE.go (pe_lc2 hc hN pi_run ok hv (fun s H C cl fp => ⟨fun pins s' σ H' v u Q J r h => (h s H C cl fp).r pins s' u J r⟩) (fun s H C cl fp => ⟨fun pins s' σ H' Q J h => (h s H C cl fp).r pins s' J⟩) (fun s H C cl fp => ⟨fun pins s' σ H' Q J h => (h s H C cl fp).r pins s' J⟩)
    (fun s H C cl fp => ⟨fun pins s' σ H' v u Q J r h => (h s H C cl fp).r pins s' u J r⟩) (fun s H C cl fp => ⟨fun pins s' σ H' Q J h => (h s H C cl fp).r pins s' J⟩) (fun s H C cl fp => ⟨fun pins s' σ H' Q J h => (h s H C cl fp).r pins s' J⟩) hs hs1) (lc2_run hg ht hi1 hg1 ht1 he hi nd hv I R P)
theorem SS.setLc2 {x : Str} {i : Nat} {py spos : Pos} (hc : X.calm = true) (hN : X.N.Nodup) (hy : X.N[i]? = some x) (hyl : X.env.scope.names.lookup x = some .local) (hsw : swapsWith (.ListComp elt [⟨tg, iter, ifs, 0⟩, ⟨tg1, iter1, ifs1, 0⟩] scope pos) (some (.Name x py)) spos.line X.env = pure true) (ok : BlkOk X.N X.env.scope scope own) (nd : (own.map (·.2)).Nodup) (hv : ∀ i ∈ ws1, i ∈ own.map (·.2)) (hs : ∀ x, foldedSetIterable iter X.env x = pure x) (hs1 : ∀ env x, foldedSetIterable iter1 env x = pure x) (hi : SI X W tg iter it)
    (hg : ∀ s H C cl fp, SGw (Bk X s H scope C cl fp) (own.map (·.2)) tg g) (ht : ∀ s H C cl fp, STs (Bk X s H scope C cl fp) W0 ifs t) (hi1 : ∀ s H C cl fp, SI (Bk X s H scope C cl fp) W0 tg1 iter1 it1)
    (hg1 : ∀ s H C cl fp, SGw (Bk X s H scope C cl fp) ws1 tg1 g1) (ht1 : ∀ s H C cl fp, STs (Bk X s H scope C cl fp) W0 ifs1 t1) (he : ∀ s H C cl fp, SE (Bk X s H scope C cl fp) W0 elt d) :
    SS X W (.Assign [.Name x py] (.ListComp elt [⟨tg, iter, ifs, 0⟩, ⟨tg1, iter1, ifs1, 0⟩] scope pos) spos) (dSet i (dLc2 it (own.map (·.2)) (turn2 (own.map (·.2)) ws1 g t it1 (turnD ws1 g1 t1 d)))) := fun F ps σ G H A D env I R P => by
  refine PS.go (ps_setLc2 hc hN hy hyl hsw pi_run ok hv (fun s H C cl fp => ⟨fun pins s' σ H' v u Q J r h => (h s H C cl fp).r pins s' u J r⟩) (fun s H C cl fp => ⟨fun pins s' σ H' Q J h => (h s H C cl fp).r pins s' J⟩) (fun s H C cl fp => ⟨fun pins s' σ H' Q J h => (h s H C cl fp).r pins s' J⟩)
    (fun s H C cl fp => ⟨fun pins s' σ H' v u Q J r h => (h s H C cl fp).r pins s' u J r⟩) (fun s H C cl fp => ⟨fun pins s' σ H' Q J h => (h s H C cl fp).r pins s' J⟩) (fun s H C cl fp => ⟨fun pins s' σ H' Q J h => (h s H C cl fp).r pins s' J⟩) hs hs1) (lc2_run hg ht hi1 hg1 ht1 he hi nd hv I R ?_)
  unfold dSet at P
  cases q : dLc2 it (own.map (·.2)) (turn2 (own.map (·.2)) ws1 g t it1 (turnD ws1 g1 t1 d)) env with
  | stuck => rw [q] at P; exact P.elim
  | exc c fs env1 => rw [q] at P; exact P
  | ok u env1 =>
    rw [q] at P
    intro v G1 H1 A1 B s1 I1 i1 R1
    have P : (nxO (putS i u env1)).post (okS X F ps D G) (exP X W F ps G) := P
    cases q2 : putS i u env1 with
    | none => rw [q2] at P; exact P.elim
    | some env2 =>
      rw [q2] at P
      obtain ⟨A2, I2, R2⟩ := putS_run I1 R1 i1 q2
      exact P _ G1 H1 A2 s1 I2 R2
end
end Dn

namespace Dn
open PySem PySem.Spec PyProof.Rows L2
section
variable {X : Cx} {W : WX} {F : Fm} {ps : List V} {σ : L2.St} {G H : Hp} {A : List Addr} {env : Ev} {e e2 elt tg iter kx vx : Expr} {es : List Expr} {ifs : List Expr} {scope : Scope} {own : List (Str × Nat)} {pos p : Pos} {it : Ev → Rs (List D)} {g : D → Ev → Option Ev} {t : Ev → Rs Bool} {d dk dv : DE} {C f : Str}
/-! ### a field of data -/
def fldDD (C f : Str) : D → Option D
  | .inst C' ns ds => if C' = C then fldL ns ds f else none
  | _ => none
def dFldD (C f : Str) (d : DE) : DE := fun env => (d env).bindD fun x env => ofD (fldDD C f x) env
theorem SE.fld (cl : Cls X.K (He.ga X.K C)) (na : NoAttr X.K (He.ga X.K C) f) (hb : attributeBase e f X.env (eval e X.env) = eval e X.env) (h : SE X W e d) : SE X W (.Attribute e f pos) (dFldD C f d) := fun F ps σ G H A Q env I R P =>
  PE.go (pe_fld pe_run hb) (h.seqD I R P fun x env1 v G1 H1 A1 s1 I1 i1 R1 P1 => by
    cases x with
    | inst C' ns ds =>
      have P2 : (ofD (if C' = C then fldL ns ds f else none) env1).post (okE X F ps σ G Q) (exP X W F ps G1) := P1
      clear P1
      by_cases hz : C' = C
      · rw [if_pos hz] at P2
        subst hz
        obtain ⟨a, dx, fs, rfl, ha, hn, r⟩ := i1.instE
        subst hn
        cases q : fldL (fs.map (·.1)) ds f with
        | none => rw [q] at P2; exact P2.elim
        | some u =>
          rw [q] at P2
          obtain ⟨w, hw, iw⟩ := IsL.fld r q
          exact ⟨a, _, dx, fs, w, rfl, R1.gh _ _ ha, cl, na, hw, P2 w G1 H1 A1 [] s1 I1 (.d iw) R1⟩
      · rw [if_neg hz] at P2; exact P2.elim
    | _ => exact P1.elim)
/-! ### *e in a display, in arguments -/
def starD : D → Option (List D)
  | .list ds => some ds
  | .tup ds => some ds
  | _ => none
def dStar (d1 : DE) (ds : Ev → Rs (List D)) : Ev → Rs (List D) := fun env => (d1 env).bindD fun x env => match starD x with
  | some xs => (ds env).bind fun ys env => .ok (xs ++ ys) env
  | none => .stuck
theorem SA.star {ds : Ev → Rs (List D)} (hs : starEach (.Starred e p :: es) X.env = (true, eval e X.env) :: starEach es X.env) (h : SE X W e d) (t : SA X W es ds) : SA X W (.Starred e p :: es) (dStar d ds) := fun F ps σ G H A Q env I R P =>
  PA.go (StX.pa_star pe_run pa_run hs) (h.seqD I R P fun x env1 v G1 H1 A1 s1 I1 i1 R1 P1 => by
    cases x with
    | list xs =>
      obtain ⟨a, vs, rfl, ha, r⟩ := i1.listE
      exact ⟨a, vs, rfl, .inr (SqL.of (R1.gh _ _ ha)), t.seq I1 R1 P1 fun ys env2 us G2 H2 A2 s2 I2 i2 R2 P2 => P2 (vs ++ us) G2 H2 A2 (s1.trans s2) I2 ((r.up s2).app i2) R2⟩
    | tup xs =>
      obtain ⟨a, vs, rfl, ha, r⟩ := i1.tupE
      exact ⟨a, vs, rfl, .inl (SqT.of (R1.gh _ _ ha)), t.seq I1 R1 P1 fun ys env2 us G2 H2 A2 s2 I2 i2 R2 P2 => P2 (vs ++ us) G2 H2 A2 (s1.trans s2) I2 ((r.up s2).app i2) R2⟩
    | _ => exact P1.elim)
/-! ### new dicts -/
def dNewK : DE := fun env => .ok (.dict [] []) env
def dNewT : DE := fun env => .ok (.dictT [] []) env
theorem SE.dnewK : SE X W (.Dict [] [] pos) dNewK := fun F ps σ G H A Q env I R P => PE.go pe_dnewK fun q hq => P (.ref q) G _ A [q] (Same.refl G) (I.up (Same.refl G) (upd_off (R.ne hq))) (.dict upd_same rfl .nil) (R.mine hq)
theorem SE.dnewT : SE X W (.Dict [] [] pos) dNewT := fun F ps σ G H A Q env I R P => PE.go pe_dnewT fun q hq => P (.ref q) G _ A [q] (Same.refl G) (I.up (Same.refl G) (upd_off (R.ne hq))) (.dictT upd_same rfl .nil) (R.mine hq)
/-- keys and values put in one by one -/
def putAll : List Key → List D → List (Key × D) → List Key × List D
  | ks, ds, [] => (ks, ds)
  | ks, ds, (k, x) :: r => putAll (putKs ks k) (putDs ks ds k x) r
inductive SPs (X : Cx) (W : WX) : List (Option Expr) → List Expr → List (DE × DE) → Prop
  | nil : SPs X W [] [] []
  | cons {k v : Expr} {ks : List (Option Expr)} {vs : List Expr} {dk dv : DE} {r : List (DE × DE)} (h1 : SE X W k dk) (h2 : SE X W v dv) (t : SPs X W ks vs r) : SPs X W (some k :: ks) (v :: vs) ((dk, dv) :: r)
def trO (X : Cx) : List (Option Expr) → List Expr → List (TE × TE)
  | some k :: ks, v :: vs => (RunE X k, RunE X v) :: trO X ks vs
  | _, _ => []
theorem SPs.pps {keys : List (Option Expr)} {vals : List Expr} {r : List (DE × DE)} (h : SPs X W keys vals r) : PPs X pos keys vals (trO X keys vals) := by
  induction h with
  | nil => exact pps_nil
  | cons h1 h2 t ih => exact pps_cons pe_run pe_run ih
def dPrs : List (DE × DE) → Ev → Rs (List (D × D))
  | [], env => .ok [] env
  | (dk, dv) :: r, env => (dk env).bindD fun x env => (dv env).bindD fun y env => (dPrs r env).bind fun zs env => .ok ((x, y) :: zs) env
def keyP : List (D × D) → Option (List (Key × D))
  | [] => some []
  | (x, y) :: r => (keyD x).bind fun k => (keyP r).map ((k, y) :: ·)
def dDisp (r : List (DE × DE)) : DE := fun env => (dPrs r env).bind fun zs env => match keyP zs with
  | some ks => .ok (let q := putAll [] [] ks; .dict q.1 q.2) env
  | none => .stuck
theorem prs_run {β : Type} {ok : β → Ev → Prop} {keys : List (Option Expr)} {vals : List Expr} {r : List (DE × DE)} (h : SPs X W keys vals r) : ∀ {F : Fm} {G H : Hp} {A : List Addr} {env : Ev} {f : List (D × D) → Ev → Rs β} {Q : List (V × V) → Hp → Prop}, EvIs X.K G H ps σ env A → Rel F G H A → ((dPrs r env).bind f).post ok (exP X W F ps G) →
    (∀ zs env' us G' H' A', Same G G' → EvIs X.K G' H' ps σ env' A' → IsL X.K G' (us.map (·.1)) (zs.map (·.1)) → IsL X.K G' (us.map (·.2)) (zs.map (·.2)) → Rel F G' H' A' → (f zs env').post ok (exP X W F ps G') → Q us H') → tPairs (trO X keys vals) σ H Q := by
  induction h with
  | nil => intro F G H A env f Q I R P k; exact k [] env [] G H A (Same.refl G) I .nil .nil R P
  | @cons k v ks vs dk dv r h1 h2 t ih =>
    intro F G H A env f Q I R P kk
    have P : ((dk env).bindD fun x env => (dv env).bindD fun y env => (dPrs r env).bind fun zs env => f ((x, y) :: zs) env).post ok (exP X W F ps G) := by
      have e : ((dPrs ((dk, dv) :: r) env).bind f) = ((dk env).bindD fun x env => (dv env).bindD fun y env => (dPrs r env).bind fun zs env => f ((x, y) :: zs) env) := by
        show (((dk env).bindD fun x env => (dv env).bindD fun y env => (dPrs r env).bind fun zs env => Rs.ok ((x, y) :: zs) env).bind f) = _
        simp only [bindD_bind, bind_bind]
        rfl
      rw [← e]; exact P
    exact h1.seqD I R P fun x env1 v1 G1 H1 A1 s1 I1 i1 R1 P1 => h2.seqD I1 R1 P1 fun y env2 v2 G2 H2 A2 s2 I2 i2 R2 P2 => ih I2 R2 P2 fun zs env3 us G3 H3 A3 s3 I3 k3 w3 R3 P3 =>
      kk ((x, y) :: zs) env3 ((v1, v2) :: us) G3 H3 A3 ((s1.trans s2).trans s3) I3 (.cons ((i1.up s2).up s3) k3) (.cons (i2.up s3) w3) R3 P3
theorem keyP_is {K : PySem.W.Frag} : ∀ {zs : List (D × D)} {us : List (V × V)} {ks : List (Key × D)}, IsL K G (us.map (·.1)) (zs.map (·.1)) → IsL K G (us.map (·.2)) (zs.map (·.2)) → keyP zs = some ks → ∃ kvs : List (Key × V), us = kvs.map (fun kv => (kV kv.1, kv.2)) ∧ kvs.length = zs.length ∧ kvs.map (·.1) = ks.map (·.1) ∧ IsL K G (kvs.map (·.2)) (ks.map (·.2))
  | [], us, ks, h1, h2, e => by
    cases us with
    | nil => cases e; exact ⟨[], rfl, rfl, rfl, .nil⟩
    | cons _ _ => cases h1
  | (x, y) :: zs, [], ks, h1, h2, e => by cases h1
  | (x, y) :: zs, (v1, v2) :: us, ks, h1, h2, e => by
    cases h1 with
    | cons a1 t1 =>
      cases h2 with
      | cons a2 t2 =>
        obtain ⟨k, e1, e2⟩ := Option.bind_eq_some_iff.mp (show (keyD x).bind (fun k => (keyP zs).map ((k, y) :: ·)) = some ks from e)
        obtain ⟨ks', e3, rfl⟩ := Option.map_eq_some_iff.mp e2
        obtain ⟨kvs, q1, q2, q3, q4⟩ := keyP_is t1 t2 e3
        refine ⟨(k, v2) :: kvs, ?_, congrArg (· + 1) q2, congrArg (k :: ·) q3, .cons a2 q4⟩
        have e4 : v1 = kV k := keyD_vw (a1.vw (Same.refl G)) e1
        rw [q1, e4]; rfl
theorem putAll_is {K : PySem.W.Frag} : ∀ {kvs : List (Key × V)} {ks : List (Key × D)} {kv0 : List (Key × V)} {ds0 : List D}, kvs.map (·.1) = ks.map (·.1) → IsL K G (kvs.map (·.2)) (ks.map (·.2)) → IsL K G (kv0.map (·.2)) ds0 → (mergeK kv0 kvs).map (·.1) = (putAll (kv0.map (·.1)) ds0 ks).1 ∧ IsL K G ((mergeK kv0 kvs).map (·.2)) (putAll (kv0.map (·.1)) ds0 ks).2
  | [], [], kv0, ds0, _, _, h => ⟨rfl, h⟩
  | [], _ :: _, _, _, e, _, _ => by cases e
  | _ :: _, [], _, _, e, _, _ => by cases e
  | (k, v) :: kvs, (k', x) :: ks, kv0, ds0, e, r, h => by
    injection e with e1 e2
    have e1 : k = k' := e1
    subst e1
    cases r with
    | cons r1 r2 =>
      have h1 := putK_keys kv0 k v
      have h2 := putK_vals (k := k) r1 h
      have := putAll_is (kv0 := putK kv0 k v) e2 r2 h2
      rw [h1] at this
      exact this
theorem exP_back {F' : Fm} {B B0 : List Addr} (R : Rel F G H (B ++ B0)) {G1 : Hp} {c : XC} {fs : Fds} {env' : Ev} (h : exP X W F ps G1 c fs env') : exP X W ⟨G, H, fun a => a ∈ B⟩ ps G1 c fs env' := fun cls dx σ' G' H' A' s I' R' x =>
  h cls dx σ' G' H' A' s I' ((Rel.back (B := B) (A := B0) R R').1.left) x
theorem SE.disp {keys : List (Option Expr)} {vals : List Expr} {r : List (DE × DE)} (hall : keys.all (·.isSome) = true) (hl : keys.length = vals.length) (h0 : keys ≠ []) (h15 : keys.length ≤ 15) (hr : keys.length = r.length) (h : SPs X W keys vals r) : SE X W (.Dict keys vals pos) (dDisp r) := fun F ps σ G H A Q env I R P => by
  refine PE.go (pe_disp h.pps hall hl h0 h15) fun q hq => ?_
  have R1 : Rel F G (upd H q (.dK [])) (A ++ [q]) := (R.mine hq).perm (by show (q :: A).Perm _; exact (List.perm_append_singleton q A).symm)
  have I1 : EvIs X.K G (upd H q (.dK [])) ps σ env A := I.up (Same.refl G) (upd_off (R.ne hq))
  have R2 := R1.start (B := A) (fun b hb => List.mem_append_left _ hb) R1.left.nd
  have hlen : ∀ {r : List (DE × DE)} {env : Ev} {zs : List (D × D)} {e : Ev}, dPrs r env = .ok zs e → zs.length = r.length := by
    intro r
    induction r with
    | nil => intro env zs e q; cases q; rfl
    | cons p r ih =>
      intro env zs e q
      obtain ⟨dk, dv⟩ := p
      unfold dPrs at q
      cases q1 : dk env with
      | ok x e1 =>
        rw [q1] at q
        have q : ((dv e1).bindD fun y env => (dPrs r env).bind fun zs env => Rs.ok ((x.frz, y) :: zs) env) = .ok zs e := q
        cases q2 : dv e1 with
        | ok y e2 =>
          rw [q2] at q
          have q : ((dPrs r e2).bind fun zs env => Rs.ok ((x.frz, y.frz) :: zs) env) = .ok zs e := q
          cases q3 : dPrs r e2 with
          | ok zs' e3 => rw [q3] at q; cases q; exact congrArg (· + 1) (ih q3)
          | _ => rw [q3] at q; cases q
        | _ => rw [q2] at q; cases q
      | _ => rw [q1] at q; cases q
  have P2 : ((dPrs r env).bind fun zs env => if zs.length = r.length then (match keyP zs with
      | some ks => Rs.ok (let q := putAll [] [] ks; T.dict q.1 q.2) env
      | none => .stuck) else .stuck).post (okE X F ps σ G Q) (exP X W ⟨G, upd H q (.dK []), fun a => a ∈ A⟩ ps G) := by
    unfold dDisp at P
    cases q0 : dPrs r env with
    | ok zs e =>
      rw [q0] at P
      show (if zs.length = r.length then _ else _ : Rs T).post _ _
      rw [if_pos (hlen q0)]
      exact P.imp (fun _ _ _ h => h) fun c fs e' _ h => exP_back (F' := F) R1 h
    | exc c fs e => rw [q0] at P; exact exP_back (F' := F) R1 P
    | stuck => rw [q0] at P; exact P.elim
  refine prs_run h I1 R2 P2 fun zs env1 us G1 H1 A1 s1 I2 k1 w1 R3 P3 => ?_
  by_cases hz : zs.length = r.length
  · rw [if_pos hz] at P3
    cases q1 : keyP zs with
    | none => rw [q1] at P3; exact P3.elim
    | some ks =>
      rw [q1] at P3
      obtain ⟨kvs, q2, q3, q4, q5⟩ := keyP_is k1 w1 q1
      obtain ⟨r8, s8, k8⟩ := Rel.back (B := A) (A := [q]) R1 R3
      have hq1 : H1 q = some (.dK []) := by rw [k8 q List.mem_cons_self]; exact upd_same
      refine ⟨hq1, kvs, q2, by rw [q3, hz, ← hr]; exact h15, ?_⟩
      obtain ⟨z1, z2⟩ := putAll_is (kv0 := []) (ds0 := []) q4 q5 .nil
      have nD : ∀ a ∈ A1, a ≠ q := fun a ha e => r8.dj q List.mem_cons_self (e ▸ ha)
      have P3 : okE X F ps σ G Q (.dict (putAll [] [] ks).1 (putAll [] [] ks).2) env1 := P3
      exact P3 (.ref q) G1 _ A1 [q] s1 (I2.up (Same.refl G1) (upd_off nD)) (.dict upd_same z1 z2) ((r8.put (List.mem_append_right _ List.mem_cons_self)).perm List.perm_append_comm)
  · rw [if_neg hz] at P3; exact P3.elim
/-! ### {k: v for tg in iter if ..} -/
def emK (dk dv : DE) : Ev → Rs (Key × D) := fun env => (dk env).bindD fun x env => (dv env).bindD fun y env => match keyD x with
  | some k => .ok (k, y) env
  | none => .stuck
def dictOf (ads : List (Key × D)) : T := let q := putAll [] [] ads; .dict q.1 q.2
abbrev dDc (it : Ev → Rs (List D)) (ws : List Nat) (tn : D → Ev → Rs (Option (Key × D))) : DE := dComp 1000000 it ws tn dictOf
def AcK (K : PySem.W.Frag) (G : Hp) (ads : List (Key × D)) (o : HO) : Prop := ∃ kv, o = .dK kv ∧ kv.map (·.1) = (putAll [] [] ads).1 ∧ IsL K G (kv.map (·.2)) (putAll [] [] ads).2 ∧ kv.length ≤ ads.length
theorem acK_up {K : PySem.W.Frag} (G G' : Hp) (ads : List (Key × D)) (o : HO) (s : Same G G') : AcK K G ads o → AcK K G' ads o := fun ⟨kv, e, h1, h2, h3⟩ => ⟨kv, e, h1, h2.up s, h3⟩
theorem putAll_snoc : ∀ (ads : List (Key × D)) (ks : List Key) (ds : List D) (k : Key) (x : D), putAll ks ds (ads ++ [(k, x)]) = (putKs (putAll ks ds ads).1 k, putDs (putAll ks ds ads).1 (putAll ks ds ads).2 k x)
  | [], _, _, _, _ => rfl
  | (k', y) :: ads, ks, ds, k, x => putAll_snoc ads _ _ k x
theorem emits_dict (hk : ∀ s H C cl fp, SE (Bk X s H scope C cl fp) W0 kx dk) (hv : ∀ s H C cl fp, SE (Bk X s H scope C cl fp) W0 vx dv) (Dn : Addr) : Emits X Dn 1000000 (AcK X.K) (emK dk dv) fun σ2 H3 Nx => eAll X scope kx σ2 H3 fun y H4 => eAll X scope vx σ2 H4 fun z H5 => ∃ kvs k, y = kV k ∧ H5 Dn = some (.dK kvs) ∧ kvs.length < sizeLine ∧ Nx (upd H5 Dn (.dK (putK kvs k z))) := by
  intro F ps σ G H A env ads o Nx I R hl hP h0 ⟨kv, eo, a1, a2, a3⟩ P sD HD CD clD fpD
  subst eo
  refine (hk sD HD CD clD fpD).seqD I R (show ((dk env).bindD fun x env => (dv env).bindD fun y env => match keyD x with
    | some k => Rs.ok (k, y) env
    | none => .stuck).post _ _ from P) fun x env5 vx' G5 H5 A5 s5 I6 i6 R6 P5 => ?_
  intro sE HE CE clE fpE
  refine (hv sE HE CE clE fpE).seqD I6 R6 P5 fun z env6 vz G6 H6 A6 s6 I7 i7 R7 P6 => ?_
  cases q : keyD x with
  | none => rw [q] at P6; exact P6.elim
  | some k =>
    rw [q] at P6
    refine ⟨kv, k, keyD_vw (i6.vw (Same.refl G5)) q, R7.keep Dn _ hP h0, Nat.lt_of_lt_of_le (Nat.lt_of_le_of_lt a3 hl) (Nat.le_of_lt sqLine), ?_⟩
    refine P6 G6 H6 A6 _ (s5.trans s6) I7 R7 ⟨putK kv k vz, rfl, ?_, ?_, ?_⟩
    · rw [putAll_snoc, putK_keys, a1]
    · rw [putAll_snoc, ← a1]; exact putK_vals i7 (a2.up (s5.trans s6))
    · rw [List.length_append]
      exact Nat.le_trans (length_putK kv k vz) (Nat.succ_le_succ a3)
theorem dc_run (hg : ∀ s H C cl fp, SGw (Bk X s H scope C cl fp) (own.map (·.2)) tg g) (ht : ∀ s H C cl fp, STs (Bk X s H scope C cl fp) W0 ifs t) (hk : ∀ s H C cl fp, SE (Bk X s H scope C cl fp) W0 kx dk) (hv : ∀ s H C cl fp, SE (Bk X s H scope C cl fp) W0 vx dv) (hi : SI X W tg iter it) (nd : (own.map (·.2)).Nodup)
    {Q : VK} (I : EvIs X.K G H ps σ env A) (R : Rel F G H A) (P : (dDc it (own.map (·.2)) (turnE (own.map (·.2)) g t (emK dk dv)) env).post (okE X F ps σ G Q) (exP X W F ps G)) :
    tDc (RunIter X tg iter) (gAll X scope tg) (tAll X scope ifs) (eAll X scope kx) (eAll X scope vx) (own.map (·.2)) σ H Q :=
  comp_run (o0 := fun _ => .dK []) (f := dictOf) (Ac := fun _ => AcK X.K) (fun _ => acK_up) (fun _ _ => ⟨[], rfl, rfl, .nil, Nat.le_refl _⟩) (emits_dict hk hv) hg ht hi nd I R (P.imp (fun u env' _ h Dn G' H' A' o ads e s' I' R' ho ⟨kv, eo, a1, a2, a3⟩ => h (.ref Dn) G' H' A' [Dn] s' I' (by subst e eo; exact .dict ho a1 a2) R') fun _ _ _ _ h => h)
theorem SE.dc (hc : X.calm = true) (hN : X.N.Nodup) (ok : BlkOk X.N X.env.scope scope own) (nd : (own.map (·.2)).Nodup) (hs : ∀ x, foldedSetIterable iter X.env x = pure x) (hi : SI X W tg iter it)
    (hg : ∀ s H C cl fp, SGw (Bk X s H scope C cl fp) (own.map (·.2)) tg g) (ht : ∀ s H C cl fp, STs (Bk X s H scope C cl fp) W0 ifs t) (hk : ∀ s H C cl fp, SE (Bk X s H scope C cl fp) W0 kx dk) (hv : ∀ s H C cl fp, SE (Bk X s H scope C cl fp) W0 vx dv) :
    SE X W (.DictComp kx vx [⟨tg, iter, ifs, 0⟩] scope pos) (dDc it (own.map (·.2)) (turnE (own.map (·.2)) g t (emK dk dv))) := fun F ps σ G H A Q env I R P =>
  PE.go (pe_dc hc hN pi_run ok (fun s H C cl fp => ⟨fun pins s' σ H' v u Q J r h => (h s H C cl fp).r pins s' u J r⟩) (fun s H C cl fp => ⟨fun pins s' σ H' Q J h => (h s H C cl fp).r pins s' J⟩) (fun s H C cl fp => ⟨fun pins s' σ H' Q J h => (h s H C cl fp).r pins s' J⟩) (fun s H C cl fp => ⟨fun pins s' σ H' Q J h => (h s H C cl fp).r pins s' J⟩) hs) (dc_run hg ht hk hv hi nd I R P)
end
end Dn

namespace Dn
open PySem PySem.Spec PyProof.Rows L2
/-- name = {..} on one line, the name a local -/
theorem ps_setDc {X : Cx} {i : Nat} {y : Str} {py : Pos} {kx vx tg iter : Expr} {ifs : List Expr} {scope : Scope} {own : List (Str × Nat)} {pos spos : Pos} {wi : TI} {g : TG} {tt : L2.TT} {tk tv : TE} (hc : X.calm = true) (hN : X.N.Nodup) (hy : X.N[i]? = some y) (hyl : X.env.scope.names.lookup y = some .local)
    (hsw : swapsWith (.DictComp kx vx [⟨tg, iter, ifs, 0⟩] scope pos) (some (.Name y py)) spos.line X.env = pure true) (hi : PI X tg iter wi) (ok : BlkOk X.N X.env.scope scope own)
    (hg : ∀ (s : Shared) (H : Hp) (C : Addr) (cl : List (Str × Addr)) (fp : List Addr), PG (X.blk s H scope (compEnvC scope cl C X.env) fp) tg g) (ht : ∀ (s : Shared) (H : Hp) (C : Addr) (cl : List (Str × Addr)) (fp : List Addr), PTs (X.blk s H scope (compEnvC scope cl C X.env) fp) ifs tt)
    (hk : ∀ (s : Shared) (H : Hp) (C : Addr) (cl : List (Str × Addr)) (fp : List Addr), PE (X.blk s H scope (compEnvC scope cl C X.env) fp) kx tk) (he : ∀ (s : Shared) (H : Hp) (C : Addr) (cl : List (Str × Addr)) (fp : List Addr), PE (X.blk s H scope (compEnvC scope cl C X.env) fp) vx tv) (hs : ∀ x, foldedSetIterable iter X.env x = pure x) :
    PS X (.Assign [.Name y py] (.DictComp kx vx [⟨tg, iter, ifs, 0⟩] scope pos) spos) (tAsg (tDc wi g tt tk tv (own.map (·.2))) (gName i)) := by
  refine ⟨fun pins s σ H D I h => ?_⟩
  rw [exec_Assign_Name_used _ _ _ _ hsw]
  refine wpAny_bind (wpAny_standAt (wpAny_bind ?_))
  show wpAny _ X.A (do let _ ← comprehension (.DictComp kx vx [⟨tg, iter, ifs, 0⟩] scope pos) scope X.env (firstIterPos [⟨tg, iter, ifs, 0⟩] pos) newDict false (eval iter X.env) (some (assign (.Name y py) X.env))) _ _ s
  have h : tDc wi g tt tk tv (own.map (·.2)) σ H (fun x H1 => gName i x σ H1 D.nx) := h
  refine wpAny_bind (thn (dc_core (Qf := fun _ s' => SP X pins D .next s') hc hN I hi ok hg ht hk he hs h fun L C s' m H' I' q hn f => ?_) fun _ s' hq => wpAny_pure (wpAny_pure hq))
  show wpAny _ _ (assign (.Name y py) X.env (.ref L)) _ _ _
  refine wpAny_assign_Name (store_ok2 (v := V.ref L) I' hN hy (.inl hyl) rfl (fun s2 I2 ⟨a, sb, ha⟩ => ?_) (.inr hyl))
  obtain ⟨f0, f1, f2, f3, f4, f5⟩ := f
  have haC : C ≠ a := by
    rcases ha with z | z
    · rw [z]; exact f1
    · exact fun e => f4 y a z e.symm
  refine ⟨m, hn.sameBut sb haC, fun h3 sb3 => ?_⟩
  exact ⟨_, H', I2.turned (t' := s2.toks) (fun b o hb e => (sb3.2 b hb).trans e) f0 f1 f3 f4 f5, q⟩
/-! ### sets of ints as tracked things -/
abbrev SiO (w : World) (a : Addr) (S : Int → Bool) (n : Nat) : HO := L2.SetO w a S n
section
variable {X : Cx} {w : World} {P : Program} {H : Hp} {h : Heap} {a : Addr} {S : Int → Bool} {n : Nat}
theorem siO_ok (R : SetR w h a S n) : ObjOk P w H h a (SiO w a S n) :=
  ⟨R, let ⟨o, _, _, _, ho, _⟩ := R; ⟨o, ho⟩, fun _ _ p k => SetR.at p k⟩
theorem siO_get {pins : List (Addr × Obj)} {σ : L2.St} {s : Shared} (I : Inv X pins σ H s) (ha : H a = some (SiO X.w a S n)) : SetR X.w s.heap a S n := (I.hok a _ ha).1
theorem siO_add {pins : List (Addr × Obj)} {σ : L2.St} {s : Shared} {E : Value → Shared → Prop} {y : Int} {t : Tok} {Q : Value → Shared → Prop} (I : Inv X pins σ H s) (hD : H a = some (SiO X.w a S n)) (room : n + 1 < scanBound)
    (k : ∀ s', Inv X pins σ (upd H a (SiO X.w a (fun j => S j || decide (j = y)) (if S y = true then n else n + 1))) s' → Q .none s') : wpAny (model X.prog X.w) X.A (call (.builtin "set.add") [.ref a, .int y t]) Q E s := by
  refine setR_add (siO_get I hD) room fun h' sb r => ?_
  have ex : ∃ u, h'.get? a = some u := let ⟨o, _, _, _, ho, _⟩ := r; ⟨o, ho⟩
  exact k _ (I.write (e := a) (t' := s.toks + 1) (by rw [hD]; trivial) (.inl rfl) (fun b u hb hu => (sb.2 b hb).trans hu) ex (siO_ok r))
end
/-! ### their comprehension -/
def tSi (w : World) (wi : TI) (g : TG) (tt : TT) (te : TE) (vs : List Nat) : TE := fun σ H Q => wi σ H fun J H1 => ∀ D, H1 D = none → ∃ V : Nat → Nat → Hp → Prop, (∃ m, V 0 m (upd H1 D (SiO w D (fun _ => false) 0))) ∧ ∀ i m H, V i m H →
  (J.stop i H ∧ Q (.ref D) H) ∨ (J.go i H ∧ ∃ N : Hp → Prop, (∀ H', N H' → ∃ m', m' < m ∧ V (i + 1) m' H') ∧ ∀ x H', J.yld i H x H' → g x (L2.wipe σ vs) H' fun σ2 H2 => L2.wipe σ2 vs = L2.wipe σ vs ∧ tt σ2 H2 fun b H3 =>
    if b = true then te σ2 H3 fun y H4 => ∃ (c : Int) (S : Int → Bool) (n : Nat), y = .int c ∧ H4 D = some (SiO w D S n) ∧ n + 1 < scanBound ∧ N (upd H4 D (SiO w D (fun j => S j || decide (j = c)) (if S c = true then n else n + 1))) else N H3)
section
variable {X : Cx}
abbrev emptySet (w : World) : Obj := { cls := .type "set", dict := none, data := .set #[] 0 (.fresh 0 0 (!w.params.followText "set-order")) }
theorem pe_si {elt tg iter : Expr} {ifs : List Expr} {scope : Scope} {own : List (PySem.Str × Nat)} {pos : Pos} {wi : TI} {g : TG} {tt : TT} {te : TE} (hc : X.calm = true) (hN : X.N.Nodup) (hi : PI X tg iter wi) (ok : BlkOk X.N X.env.scope scope own)
    (hg : ∀ (s : Shared) (H : Hp) (C : Addr) (cl : List (PySem.Str × Addr)) (fp : List Addr), PG (X.blk s H scope (compEnvC scope cl C X.env) fp) tg g) (ht : ∀ (s : Shared) (H : Hp) (C : Addr) (cl : List (PySem.Str × Addr)) (fp : List Addr), PTs (X.blk s H scope (compEnvC scope cl C X.env) fp) ifs tt)
    (he : ∀ (s : Shared) (H : Hp) (C : Addr) (cl : List (PySem.Str × Addr)) (fp : List Addr), PE (X.blk s H scope (compEnvC scope cl C X.env) fp) elt te) (hs : ∀ x, foldedSetIterable iter X.env x = pure x := by intro _; rfl) :
    PE X (.SetComp elt [⟨tg, iter, ifs, 0⟩] scope pos) (tSi X.w wi g tt te (own.map (·.2))) := by
  refine ⟨fun pins s σ H Q I h => ?_⟩
  have clo : ∀ y ∈ scope.names, y.2 = .free → ∃ c, X.env.cells.lookup y.1 = some c := fun y hy e => (ok.free y hy e).elim (fun k => I.ok.has _ (.inl k)) fun k => I.ok.has _ (.inr k)
  rw [PpSet.eval_SetComp]
  refine wpAny_comprehension_free (use := none) rfl hs (closure_ok clo) ok.kind (fun y hy e => (ok.uniq y hy).trans (by rw [e])) (thn (hi.run pins s σ H _ I h) fun xv s1 hx => thn hx fun itv s2 h2 => ?_)
  obtain ⟨it, fp, tn, J, H2, rfl, I2, T, st2, f2, q⟩ := h2
  refine PpSet.newSet_ok (newEnv_comp ?_)
  have hDn : H2 s2.heap.objs.size = none := I2.hok.fresh (Nat.le_refl _)
  obtain ⟨V, ⟨m0, v0⟩, turn⟩ := q _ hDn
  generalize eD : s2.heap.objs.size = D at hDn v0 turn ⊢
  obtain ⟨s3, hs3⟩ : ∃ s3 : Shared, s3 = { s2 with heap := s2.heap.push (emptySet X.w) } := ⟨_, rfl⟩
  have hh3 : s3.heap = s2.heap.push (emptySet X.w) := by rw [hs3]
  have up3 : ∀ b o, s2.heap.get? b = some o → s3.heap.get? b = some o := fun b o e => by rw [hh3]; exact Heap.get?_push_of_some _ e
  have I3 : Inv X pins σ (upd H2 D (SiO X.w D (fun _ => false) 0)) s3 := by
    rw [hs3]
    refine I2.laid (t' := s2.toks) (fun b o e => Heap.get?_push_of_some _ e) (Nat.le_of_eq eD) ?_
    rw [← eD]
    exact siO_ok (setR_fresh X.w)
  have ffp : ∀ b ∈ fp, b < s2.heap.objs.size := fun b hb => let ⟨_, e, _⟩ := T.obj _ _ st2 b hb; Heap.lt_size e
  have f3 : ∀ b ∈ fp, FpOk X pins (upd H2 D (SiO X.w D (fun _ => false) 0)) b ∧ b < s3.heap.objs.size := fun b hb => by
    have lt := ffp b hb
    refine ⟨⟨?_, (f2 b hb).2⟩, ?_⟩
    · rw [upd_ne (eD ▸ Nat.ne_of_lt lt)]; exact (f2 b hb).1
    · rw [hh3, Heap.size_push]; exact Nat.lt_succ_of_lt lt
  have st3 : tn 0 s3.heap := T.keep _ _ _ st2 fun b _ => up3 b
  have I4 := block_start I3 ok hN f3
  obtain ⟨H3, eH3⟩ : ∃ H3, H3 = upd H2 D (SiO X.w D (fun _ => false) 0) := ⟨_, rfl⟩
  rw [← eH3] at I3 I4 v0 f3
  have pg := hg s3 H3 s3.heap.objs.size (cellsFrom (s3.heap.objs.size + 1) scope.names (cloFrom X.env.cells scope.names [])) fp
  have pt := ht s3 H3 s3.heap.objs.size (cellsFrom (s3.heap.objs.size + 1) scope.names (cloFrom X.env.cells scope.names [])) fp
  have pe := he s3 H3 s3.heap.objs.size (cellsFrom (s3.heap.objs.size + 1) scope.names (cloFrom X.env.cells scope.names [])) fp
  have goal : codeAny (model X.prog X.w) X.A (.compStart (.SetComp elt [⟨tg, iter, ifs, 0⟩] scope pos) 0 (.ref it) (.ref D) (compEnvC scope (cellsFrom (s3.heap.objs.size + 1) scope.names (cloFrom X.env.cells scope.names [])) s3.heap.objs.size X.env)) (compPost (model X.prog X.w) X.A X.xe none (EP X pins σ Q) (.ref D) s3.heap.objs.size)
      { s3 with heap := pushCells (s3.heap.push { cls := .type "dict", data := .dict #[] }) scope.names } := by
    generalize hce : compEnvC scope (cellsFrom (s3.heap.objs.size + 1) scope.names (cloFrom X.env.cells scope.names [])) s3.heap.objs.size X.env = ce at I4 pg pt pe ⊢
    have cL : ce.locals = s3.heap.objs.size := by rw [← hce]; rfl
    obtain ⟨s4, hs4⟩ : ∃ s4 : Shared, s4 = { s3 with heap := pushCells (s3.heap.push { cls := .type "dict", data := .dict #[] }) scope.names } := ⟨_, rfl⟩
    rw [← hs4] at I4 ⊢
    have st4 : tn 0 s4.heap := T.keep _ _ _ st3 fun b _ o e => by rw [hs4]; exact pushCells_keeps _ _ _ _ (Heap.get?_push_of_some _ e)
    have stat : ∀ {σ' : L2.St} {H' : Hp} {s' : Shared}, Inv (X.blk s3 H3 scope ce fp) [] σ' H' s' → (∀ b ∈ fp, H' b = none) → ∀ b ∈ fp, FpOk (X.blk s3 H3 scope ce fp) [] H' b := fun I' z b hb =>
      ⟨z b hb, (I'.ok.exf b hb).1, I'.ok.exfs b hb, .inl hb, fun x c e => (I'.ok.exf b hb).2 x c e, fun p hp => by cases (show p ∈ ([] : List (Addr × Obj)) from hp)⟩
    let Z : Nat → Shared → Prop := fun n s' => ∃ i H', Inv (X.blk s3 H3 scope ce fp) [] (L2.wipe σ (own.map (·.2))) H' s' ∧ tn i s'.heap ∧ (∀ b ∈ fp, H' b = none) ∧ V i n H'
    have lp : codeAny (model X.prog X.w) X.A (.compLoop (.SetComp elt [⟨tg, iter, ifs, 0⟩] scope pos) 0 (.ref it) (.ref D) ce) (compPost (model X.prog X.w) X.A X.xe none (EP X pins σ Q) (.ref D) s3.heap.objs.size) s4 := by
      refine PpSet.compLoopS_any Z ?_ m0 ⟨0, H3, I4, st4, fun b hb => (f3 b hb).1.1, v0⟩
      rintro n s5 ⟨i, H5, I5, st5, n5, v5⟩
      rcases turn i n H5 v5 with ⟨stop, fin⟩ | ⟨go, N, hN', step⟩
      · refine thnF (T.done (X.blk s3 H3 scope ce fp) rfl rfl rfl hc i [] s5 _ H5 (fun _ _ => False) I5 (stat I5 n5) st5 stop) fun r s6 hr => ?_
        obtain ⟨rfl, I6⟩ := hr
        have I7 : Inv X pins σ H5 s6 := I3.call' (ch := fp) I6.os I6.base I6.hok I6.bare fun b hb => let ⟨_, z1, _, z2, z3, z4⟩ := (f3 b hb).1; ⟨z2, z1, z3, z4⟩
        have nC : H5 s3.heap.objs.size = none := cL ▸ (show H5 ce.locals = none from I6.free)
        obtain ⟨m, hm, _⟩ := I6.loc
        have hm : s6.heap.Ns s3.heap.objs.size m := cL ▸ (show s6.heap.Ns ce.locals m from hm)
        obtain ⟨p0, p1, p2, p3, p4, p5⟩ := I3.fpOk (Nat.le_refl _) nC
        exact ⟨m, hm, fun h'' sb => ⟨.ref D, H5, I7.turned (t' := s6.toks) (fun b o hb e => (sb.2 b hb).trans e) nC p1 p3 p4 p5, rfl, fin⟩⟩
      · refine thnF (T.item (X.blk s3 H3 scope ce fp) rfl rfl rfl hc i [] s5 _ H5 (fun _ _ => False) I5 (stat I5 n5) st5 go) fun r s6 hr => ?_
        obtain ⟨u, rfl, h6⟩ := hr
        refine thnF h6 fun _ s7 ⟨x, H7, I7, r7, y7, st7, n7⟩ => ?_
        have J7 := I7.pinned (stat I7 n7) (T.obj _ _ st7)
        refine thnF (pg.run _ s7 _ H7 x u _ J7 r7 (step x H7 y7)) fun _ s8 ⟨σ8, H8, I8, w8, q8⟩ => thnF (pt.run _ s8 σ8 H8 _ I8 q8) fun b s9 ⟨H9, I9, q9⟩ => ?_
        have back : ∀ {s' : Shared} {H' : Hp}, Inv (X.blk s3 H3 scope ce fp) ([] ++ pinsAt fp s7.heap) σ8 H' s' → N H' → ∃ m, m < n ∧ Z m s' := fun {s' H'} I' nx => by
          obtain ⟨m', hm, v'⟩ := hN' H' nx
          have pin : ∀ b ∈ fp, ∀ o, s7.heap.get? b = some o → s'.heap.get? b = some o ∧ H' b = none := fun b hb o e =>
            have z := I'.pin (b, o) (List.mem_append_right _ (List.mem_append_right _ (mem_pinsAt hb e)))
            ⟨z.1, z.2.1⟩
          refine ⟨m', hm, i + 1, H', (I'.unpinned (pins := [])).weak (by rw [← w8, L2.wipe_length]) (fun j v e => (wipe_some (w8.symm ▸ e)).1), T.keep _ _ _ st7 fun b hb o e => (pin b hb o e).1, fun b hb => ?_, v'⟩
          exact let ⟨o, e, _⟩ := T.obj _ _ st7 b hb; (pin b hb o e).2
        cases b with
        | false => exact back I9 (by simpa using q9)
        | true =>
          rw [if_pos rfl] at q9
          refine thnF (pe.run _ s9 σ8 H9 _ I9 q9) fun z s10 ⟨yv, H10, I10, r10, c, S0, n0, ey, hD10, hz10, nx⟩ => ?_
          subst ey
          obtain ⟨t, rfl⟩ : ∃ t, z = Value.int c t := r10
          exact siO_add (X := X.blk s3 H3 scope ce fp) I10 hD10 hz10 fun s11 I11 => back I11 nx
    exact PpSet.codeAny_compStart_set lp (T.self X.A 0 _ _ _ st4 lp)
  rw [hs3] at goal
  exact goal
end
/-- the members put in one by one, and how many they are -/
def putZ (S : Int → Bool) : List Int → Int → Bool
  | [], j => S j
  | c :: cs, j => putZ (fun j => S j || decide (j = c)) cs j
def cntS (S : Int → Bool) (n : Nat) : List Int → Nat
  | [] => n
  | c :: cs => cntS (fun j => S j || decide (j = c)) (if S c = true then n else n + 1) cs
theorem putZ_snoc (cs : List Int) (c : Int) : ∀ S : Int → Bool, putZ S (cs ++ [c]) = fun j => putZ S cs j || decide (j = c) := by
  induction cs with
  | nil => intro S; rfl
  | cons d cs ih => intro S; exact ih _
theorem cntS_snoc (cs : List Int) (c : Int) : ∀ (S : Int → Bool) (n : Nat), cntS S n (cs ++ [c]) = if putZ S cs c = true then cntS S n cs else cntS S n cs + 1 := by
  induction cs with
  | nil => intro S n; rfl
  | cons d cs ih => intro S n; exact ih _ _
theorem cntS_le (cs : List Int) : ∀ (S : Int → Bool) (n : Nat), cntS S n cs ≤ n + cs.length := by
  induction cs with
  | nil => intro S n; exact Nat.le_refl _
  | cons d cs ih =>
    intro S n
    refine Nat.le_trans (ih _ _) ?_
    rw [List.length_cons]
    split <;> omega
theorem putZ_mem (cs : List Int) : ∀ (S : Int → Bool) (j : Int), putZ S cs j = true ↔ S j = true ∨ j ∈ cs := by
  induction cs with
  | nil => intro S j; simp [putZ]
  | cons d cs ih =>
    intro S j
    show putZ (fun j => S j || decide (j = d)) cs j = true ↔ _
    rw [ih]; simp only [Bool.or_eq_true, decide_eq_true_eq, List.mem_cons]
    constructor
    · rintro ((h | h) | h)
      · exact .inl h
      · exact .inr (.inl h)
      · exact .inr (.inr h)
    · rintro (h | h | h)
      · exact .inl (.inl h)
      · exact .inl (.inr h)
      · exact .inr h
theorem sortedI_uniq : ∀ {xs ys : List Int}, xs.Pairwise (· < ·) → ys.Pairwise (· < ·) → (∀ k, k ∈ xs ↔ k ∈ ys) → xs = ys
  | [], [], _, _, _ => rfl
  | [], y :: ys, _, _, h => by have := (h y).mpr List.mem_cons_self; cases this
  | x :: xs, [], _, _, h => by have := (h x).mp List.mem_cons_self; cases this
  | x :: xs, y :: ys, p, q, h => by
    obtain ⟨p1, p2⟩ := List.pairwise_cons.mp p
    obtain ⟨q1, q2⟩ := List.pairwise_cons.mp q
    have e : x = y := by
      rcases List.mem_cons.mp ((h x).mp List.mem_cons_self) with e | e
      · exact e
      · rcases List.mem_cons.mp ((h y).mpr List.mem_cons_self) with e2 | e2
        · exact e2.symm
        · have := q1 x e; have := p1 y e2; omega
    subst e
    rw [sortedI_uniq p2 q2 fun k => ?_]
    constructor
    · intro hk
      rcases List.mem_cons.mp ((h k).mp (List.mem_cons_of_mem _ hk)) with z | z
      · have := p1 k hk; omega
      · exact z
    · intro hk
      rcases List.mem_cons.mp ((h k).mpr (List.mem_cons_of_mem _ hk)) with z | z
      · have := q1 k hk; omega
      · exact z
abbrev LexS (ps : List (Int × Int)) : Prop := ps.Pairwise fun a b => SrtO.lexB b a = false
theorem lex_anti {a b : Int × Int} (h1 : SrtO.lexB a b = false) (h2 : SrtO.lexB b a = false) : a = b := by
  have x := SrtO.lexB_no.mp h1
  have y := SrtO.lexB_no.mp h2
  exact Prod.ext (by omega) (by omega)
theorem lex_uniq : ∀ {xs ys : List (Int × Int)}, xs.Perm ys → LexS xs → LexS ys → xs = ys
  | [], ys, h, _, _ => (List.nil_perm.mp h).symm
  | x :: xs, [], h, _, _ => (List.cons_ne_nil _ _ (List.perm_nil.mp h)).elim
  | x :: xs, y :: ys, h, p, q => by
    obtain ⟨p1, p2⟩ := List.pairwise_cons.mp p
    obtain ⟨q1, q2⟩ := List.pairwise_cons.mp q
    have e : x = y := by
      rcases List.mem_cons.mp (h.mem_iff.mp List.mem_cons_self) with e | hx
      · exact e
      · rcases List.mem_cons.mp (h.mem_iff.mpr List.mem_cons_self) with e | hy
        · exact e.symm
        · exact lex_anti (q1 x hx) (p1 y hy)
    subst e
    rw [lex_uniq h.cons_inv p2 q2]

section
variable {X : Cx} {W : WX} {F : Fm} {ps : List V} {σ : L2.St} {G H : Hp} {A : List Addr} {env : Ev} {e e2 elt tg iter kx vx : Expr} {es : List Expr} {ifs : List Expr} {scope : Scope} {own : List (Str × Nat)} {pos p p2 pos2 : Pos} {it : Ev → Rs (List D)} {g : D → Ev → Option Ev} {t : Ev → Rs Bool} {d dk dv : DE} {C f x : Str} {i : Nat} {py spos : Pos}
theorem dSet_run {e : Expr} {t : TE} {D : Ends} (P : (dSet i d env).post (okS X F ps D G) (exP X W F ps G)) : (d env).post (okE X F ps σ G fun x H1 => gName i x σ H1 D.nx) (exP X W F ps G) := by
  unfold dSet at P
  cases q : d env with
  | stuck => rw [q] at P; exact P.elim
  | exc c fs env1 => rw [q] at P; exact P
  | ok u env1 =>
    rw [q] at P
    intro v G1 H1 A1 B s1 I1 i1 R1
    have P : (nxO (putS i u env1)).post (okS X F ps D G) (exP X W F ps G) := P
    cases q2 : putS i u env1 with
    | none => rw [q2] at P; exact P.elim
    | some env2 =>
      rw [q2] at P
      obtain ⟨A2, I2, R2⟩ := putS_run I1 R1 i1 q2
      exact P _ G1 H1 A2 s1 I2 R2
theorem SS.setDc (hc : X.calm = true) (hN : X.N.Nodup) (hy : X.N[i]? = some x) (hyl : X.env.scope.names.lookup x = some .local) (hsw : swapsWith (.DictComp kx vx [⟨tg, iter, ifs, 0⟩] scope pos) (some (.Name x py)) spos.line X.env = pure true) (ok : BlkOk X.N X.env.scope scope own) (nd : (own.map (·.2)).Nodup) (hs : ∀ x, foldedSetIterable iter X.env x = pure x) (hi : SI X W tg iter it)
    (hg : ∀ s H C cl fp, SGw (Bk X s H scope C cl fp) (own.map (·.2)) tg g) (ht : ∀ s H C cl fp, STs (Bk X s H scope C cl fp) W0 ifs t) (hk : ∀ s H C cl fp, SE (Bk X s H scope C cl fp) W0 kx dk) (hv : ∀ s H C cl fp, SE (Bk X s H scope C cl fp) W0 vx dv) :
    SS X W (.Assign [.Name x py] (.DictComp kx vx [⟨tg, iter, ifs, 0⟩] scope pos) spos) (dSet i (dDc it (own.map (·.2)) (turnE (own.map (·.2)) g t (emK dk dv)))) := fun F ps σ G H A D env I R P => by
  refine PS.go (ps_setDc hc hN hy hyl hsw pi_run ok (fun s H C cl fp => ⟨fun pins s' σ H' v u Q J r h => (h s H C cl fp).r pins s' u J r⟩) (fun s H C cl fp => ⟨fun pins s' σ H' Q J h => (h s H C cl fp).r pins s' J⟩) (fun s H C cl fp => ⟨fun pins s' σ H' Q J h => (h s H C cl fp).r pins s' J⟩) (fun s H C cl fp => ⟨fun pins s' σ H' Q J h => (h s H C cl fp).r pins s' J⟩) hs) (dc_run hg ht hk hv hi nd I R (dSet_run (e := kx) (t := eAll X scope kx) P))
/-! ### sorted -/
abbrev CallV' (X : Cx) (o : D → Option T) : Prop := CallV1 X (.builtin "sorted") o
/-- ints in order -/
def insI (i : Int) : List Int → List Int
  | [] => [i]
  | j :: js => if i ≤ j then i :: j :: js else j :: insI i js
def srtI : List Int → List Int
  | [] => []
  | i :: is => insI i (srtI is)
theorem insI_perm (i : Int) : ∀ js, (insI i js).Perm (i :: js)
  | [] => .refl _
  | j :: js => by
    unfold insI
    split
    · exact .refl _
    · exact ((insI_perm i js).cons j).trans (.swap i j js)
theorem srtI_perm : ∀ js, (srtI js).Perm js
  | [] => .refl _
  | i :: is => (insI_perm i _).trans ((srtI_perm is).cons i)
theorem insI_srt (i : Int) : ∀ {js : List Int}, js.Pairwise (· ≤ ·) → (insI i js).Pairwise (· ≤ ·)
  | [], _ => List.pairwise_singleton _ _
  | j :: js, h => by
    obtain ⟨a, b⟩ := List.pairwise_cons.mp h
    unfold insI
    split
    · rename_i hij
      exact List.pairwise_cons.mpr ⟨fun k hk => (List.mem_cons.mp hk).elim (fun e => e ▸ hij) fun z => Int.le_trans hij (a k z), h⟩
    · rename_i hij
      refine List.pairwise_cons.mpr ⟨fun k hk => ?_, insI_srt i b⟩
      rcases List.mem_cons.mp ((insI_perm i js).mem_iff.mp hk) with e | e
      · omega
      · exact a k e
theorem srtI_srt : ∀ js, (srtI js).Pairwise (· ≤ ·)
  | [] => .nil
  | i :: is => insI_srt i (srtI_srt is)
theorem leI_uniq : ∀ {xs ys : List Int}, xs.Perm ys → xs.Pairwise (· ≤ ·) → ys.Pairwise (· ≤ ·) → xs = ys
  | [], ys, h, _, _ => (List.nil_perm.mp h).symm
  | x :: xs, [], h, _, _ => (List.cons_ne_nil _ _ (List.perm_nil.mp h)).elim
  | x :: xs, y :: ys, h, p, q => by
    obtain ⟨p1, p2⟩ := List.pairwise_cons.mp p
    obtain ⟨q1, q2⟩ := List.pairwise_cons.mp q
    have e : x = y := by
      rcases List.mem_cons.mp (h.mem_iff.mp List.mem_cons_self) with e | hx
      · exact e
      · rcases List.mem_cons.mp (h.mem_iff.mpr List.mem_cons_self) with e | hy
        · exact e.symm
        · exact Int.le_antisymm (p1 y hy) (q1 x hx)
    subst e
    rw [leI_uniq h.cons_inv p2 q2]
/-- texts in order -/
def insS (i : Str) : List Str → List Str
  | [] => [i]
  | j :: js => if Mq.sle i j then i :: j :: js else j :: insS i js
def srtS : List Str → List Str
  | [] => []
  | i :: is => insS i (srtS is)
theorem insS_perm (i : Str) : ∀ js, (insS i js).Perm (i :: js)
  | [] => .refl _
  | j :: js => by
    unfold insS
    split
    · exact .refl _
    · exact ((insS_perm i js).cons j).trans (.swap i j js)
theorem srtS_perm : ∀ js, (srtS js).Perm js
  | [] => .refl _
  | i :: is => (insS_perm i _).trans ((srtS_perm is).cons i)
theorem insS_srt (i : Str) : ∀ {js : List Str}, (js.Pairwise fun a b => Mq.sle a b = true) → (insS i js).Pairwise fun a b => Mq.sle a b = true
  | [], _ => List.pairwise_singleton _ _
  | j :: js, h => by
    obtain ⟨a, b⟩ := List.pairwise_cons.mp h
    unfold insS
    split
    · rename_i hij
      exact List.pairwise_cons.mpr ⟨fun k hk => (List.mem_cons.mp hk).elim (fun e => e ▸ hij) fun z => Mq.sle_trans hij (a k z), h⟩
    · rename_i hij
      refine List.pairwise_cons.mpr ⟨fun k hk => ?_, insS_srt i b⟩
      rcases List.mem_cons.mp ((insS_perm i js).mem_iff.mp hk) with e | e
      · subst e; exact (Mq.sle_total j k).resolve_right (by simpa using hij)
      · exact a k e
theorem srtS_srt : ∀ js, (srtS js).Pairwise fun a b => Mq.sle a b = true
  | [] => .nil
  | i :: is => insS_srt i (srtS_srt is)
theorem srtS_uniq {xs ys : List Str} (h : ys.Perm xs) (hs : sortedS ys = true) : ys = srtS xs := Mq.sorted_uniq (h.trans (srtS_perm xs).symm) hs (Mq.pair_sorted (srtS_srt xs))
/-- pairs in order -/
def insP (i : Int × Int) : List (Int × Int) → List (Int × Int)
  | [] => [i]
  | j :: js => if SrtO.lexB j i = false then i :: j :: js else j :: insP i js
def srtP : List (Int × Int) → List (Int × Int)
  | [] => []
  | i :: is => insP i (srtP is)
theorem insP_perm (i : Int × Int) : ∀ js, (insP i js).Perm (i :: js)
  | [] => .refl _
  | j :: js => by
    unfold insP
    split
    · exact .refl _
    · exact ((insP_perm i js).cons j).trans (.swap i j js)
theorem srtP_perm : ∀ js, (srtP js).Perm js
  | [] => .refl _
  | i :: is => (insP_perm i _).trans ((srtP_perm is).cons i)
theorem insP_srt (i : Int × Int) : ∀ {js : List (Int × Int)}, LexS js → LexS (insP i js)
  | [], _ => List.pairwise_singleton _ _
  | j :: js, h => by
    obtain ⟨a, b⟩ := List.pairwise_cons.mp h
    unfold insP
    split
    · rename_i hij
      refine List.pairwise_cons.mpr ⟨fun k hk => ?_, h⟩
      rcases List.mem_cons.mp hk with e | e
      · rw [e]; exact hij
      · have h1 := SrtO.lexB_no.mp hij
        have h2 := SrtO.lexB_no.mp (a k e)
        exact SrtO.lexB_no.mpr (by omega)
    · rename_i hij
      refine List.pairwise_cons.mpr ⟨fun k hk => ?_, insP_srt i b⟩
      rcases List.mem_cons.mp ((insP_perm i js).mem_iff.mp hk) with e | e
      · rw [e]
        have h1 := SrtO.lexB_iff.mp (by simpa using hij)
        exact SrtO.lexB_no.mpr (by omega)
      · exact a k e
theorem srtP_srt : ∀ js, LexS (srtP js)
  | [] => .nil
  | i :: is => insP_srt i (srtP_srt is)
def pairsD : List D → Option (List (Int × Int))
  | [] => some []
  | .tup [.int i, .int j] :: ds => (pairsD ds).map ((i, j) :: ·)
  | _ => none
def prD' (q : Int × Int) : D := .tup [.int q.1, .int q.2]
/-- the pair that a value stands for -/
def pkV (G : Hp) (v : V) : Int × Int := match v with
  | .ref t => (match G t with
    | some (.tup [.int a, .int b]) => (a, b)
    | _ => (0, 0))
  | _ => (0, 0)
theorem pairsD_is {K : PySem.W.Frag} {G H : Hp} (s : Same G H) : ∀ {ds : List D} {vs : List V} {qs : List (Int × Int)}, IsL K G vs ds → pairsD ds = some qs → vs.map (pkV H) = qs ∧ (∀ v ∈ vs, ∃ t, v = .ref t ∧ H t = some (.tup [.int (pkV H v).1, .int (pkV H v).2]) ∧ G t = H t)
  | [], _, _, h, e => by cases h; cases e; exact ⟨rfl, fun _ z => by cases z⟩
  | d :: ds, _, qs, h, e => by
    unfold pairsD at e
    split at e
    · rename_i h0
      cases h0
    · rename_i i j ds' h0
      injection h0 with h1 h2
      subst h1 h2
      cases h with
      | cons h t =>
        obtain ⟨qs', e1, rfl⟩ := Option.map_eq_some_iff.mp e
        obtain ⟨r1, r2⟩ := pairsD_is s t e1
        obtain ⟨a, xs, rfl, ha, r⟩ := h.tupE
        have er : xs = [V.int i, V.int j] := IsL.ints (ns := [i, j]) r
        subst er
        have hb := s _ _ ha
        have pk : pkV H (.ref a) = (i, j) := by unfold pkV; simp only [hb]
        refine ⟨by rw [List.map_cons, pk, r1], fun v hv => ?_⟩
        rcases List.mem_cons.mp hv with z | z
        · subst z; exact ⟨a, rfl, by rw [pk]; exact hb, by rw [ha, hb]⟩
        · exact r2 v z
    · cases e
theorem prs_isL {K : PySem.W.Frag} {G H : Hp} : ∀ {xs : List V}, (∀ v ∈ xs, ∃ t, v = .ref t ∧ H t = some (.tup [.int (pkV H v).1, .int (pkV H v).2]) ∧ G t = H t) → IsL K G xs ((xs.map (pkV H)).map prD')
  | [], _ => .nil
  | x :: xs, h => by
    obtain ⟨t, e, ht, hg⟩ := h x List.mem_cons_self
    refine .cons ?_ (prs_isL fun y hy => h y (List.mem_cons_of_mem _ hy))
    subst e
    rw [← hg] at ht
    exact .tup ht (.cons (.int _) (.cons (.int _) .nil))
def keysS : List Key → Option (List Str)
  | [] => some []
  | .inr x :: ks => (keysS ks).map (x :: ·)
  | _ => none
def keysI : List Key → Option (List Int)
  | [] => some []
  | .inl x :: ks => (keysI ks).map (x :: ·)
  | _ => none
theorem keysS_is : ∀ {ks : List Key} {xs : List Str}, keysS ks = some xs → ks = xs.map Sum.inr
  | [], _, e => by cases e; rfl
  | .inr x :: ks, xs, e => by
    obtain ⟨ys, e1, rfl⟩ := Option.map_eq_some_iff.mp (show (keysS ks).map (x :: ·) = some xs from e)
    rw [keysS_is e1]; rfl
  | .inl x :: ks, xs, e => by cases e
theorem keysI_is : ∀ {ks : List Key} {xs : List Int}, keysI ks = some xs → ks = xs.map Sum.inl
  | [], _, e => by cases e; rfl
  | .inl x :: ks, xs, e => by
    obtain ⟨ys, e1, rfl⟩ := Option.map_eq_some_iff.mp (show (keysI ks).map (x :: ·) = some xs from e)
    rw [keysI_is e1]; rfl
  | .inr x :: ks, xs, e => by cases e
/-- sorted(list of ints, of pairs of ints, of few texts; a dict of few texts or ints) -/
def oSorted : D → Option T
  | .list ds => match intsD ds with
    | some ns => some (.lst ((srtI ns).map .int))
    | none => match strsD ds with
      | some xs => if xs.length < 64 then some (.lst ((srtS xs).map .str)) else none
      | none => (pairsD ds).map fun qs => .lst ((srtP qs).map prD')
  | .dict ks _ => match keysS ks with
    | some xs => if xs.length < 64 then some (.lst ((srtS xs).map .str)) else none
    | none => match keysI ks with
      | some xs => if xs.length < 64 then some (.lst ((srtI xs).map .int)) else none
      | none => none
  | _ => none
theorem cv_sorted (hc : X.calm = true) : CallV1 X (.builtin "sorted") oSorted := fun F A G H v x t Q R h e k => by
  cases x with
  | list ds =>
    obtain ⟨a, xs, rfl, ha, r⟩ := h.list _ rfl
    unfold oSorted at e
    dsimp only at e
    cases q1 : intsD ds with
    | some ns =>
      rw [q1] at e
      cases e
      rw [intsD_is r q1] at ha
      refine CallR.go cr_sortedI ⟨a, ns, rfl, SqL.of ha, fun ns' p pm pw hp => ?_⟩
      rw [leI_uniq (pm.trans (srtI_perm ns).symm) pw (srtI_srt ns)]
      exact k.lst (IsL.of_ints _) R hp
    | none =>
      rw [q1] at e
      dsimp only at e
      cases q2 : strsD ds with
      | some ys =>
        rw [q2] at e
        have e : (if ys.length < 64 then some (T.lst ((srtS ys).map .str)) else none) = some t := e
        by_cases hz : ys.length < 64
        · rw [if_pos hz] at e
          cases e
          rw [strsD_is r q2] at ha
          refine CallR.go cr_sortedS ⟨a, ys, rfl, SqL.of ha, hz, fun zs p pm pw hp => ?_⟩
          rw [srtS_uniq pm pw]
          exact k.lst (IsL.of_strs _) R hp
        · rw [if_neg hz] at e; cases e
      | none =>
        rw [q2] at e
        obtain ⟨qs, q3, rfl⟩ := Option.map_eq_some_iff.mp (show (pairsD ds).map (fun qs => T.lst ((srtP qs).map prD')) = some t from e)
        obtain ⟨m1, m2⟩ := pairsD_is R.gh r q3
        refine CallR.go cr_sortedPO ⟨a, xs, pkV H, rfl, SqL.of ha, fun v hv => ?_, fun ys p h1 h2 hp => ?_⟩
        · obtain ⟨t, e, ht, _⟩ := m2 v hv
          exact ⟨t, e, ht⟩
        · have eq : ys.map (pkV H) = srtP qs := lex_uniq ((h2.perm.map _).trans (by rw [m1]; exact (srtP_perm qs).symm)) (List.pairwise_map.mpr h1) (srtP_srt qs)
          have := prs_isL (K := X.K) (G := G) (H := H) (xs := ys) fun v hv => m2 v (h2.perm.mem_iff.mp hv)
          rw [eq] at this
          exact k.lst this R hp
  | dict ks ds =>
    obtain ⟨a, kv, rfl, ha, hk, r⟩ := h.dict _ _ rfl
    subst hk
    unfold oSorted at e
    dsimp only at e
    cases q1 : keysS (kv.map (·.1)) with
    | some ys =>
      rw [q1] at e
      have e : (if ys.length < 64 then some (T.lst ((srtS ys).map .str)) else none) = some t := e
      by_cases hz : ys.length < 64
      · rw [if_pos hz] at e
        cases e
        refine CallR.go (call_sortedD hc) ⟨a, kv, ys, rfl, ha, keysS_is q1, hz, fun zs p pm pw hp => ?_⟩
        rw [srtS_uniq pm pw]
        exact k.lst (IsL.of_strs _) R hp
      · rw [if_neg hz] at e; cases e
    | none =>
      rw [q1] at e
      dsimp only at e
      cases q2 : keysI (kv.map (·.1)) with
      | none => rw [q2] at e; cases e
      | some ys =>
        rw [q2] at e
        have e : (if ys.length < 64 then some (T.lst ((srtI ys).map .int)) else none) = some t := e
        by_cases hz : ys.length < 64
        · rw [if_pos hz] at e
          cases e
          refine CallR.go (call_sortedDI hc) ⟨a, kv, ys, rfl, ha, keysI_is q2, hz, fun zs p pm pw hp => ?_⟩
          rw [leI_uniq (pm.trans (srtI_perm ys).symm) pw (srtI_srt ys)]
          exact k.lst (IsL.of_ints _) R hp
        · rw [if_neg hz] at e; cases e
  | _ => cases e
end
end Dn

namespace Dn
open PySem PySem.Spec PyProof.Rows L2
/-! ### sorted({elt for tg in iter if ..}), ints -/
def insU (i : Int) : List Int → List Int
  | [] => [i]
  | j :: js => if i < j then i :: j :: js else if i = j then j :: js else j :: insU i js
def usrt : List Int → List Int := List.foldl (fun js i => insU i js) []
theorem insU_mem (i k : Int) : ∀ js, k ∈ insU i js ↔ k = i ∨ k ∈ js
  | [] => by simp [insU]
  | j :: js => by
    unfold insU
    split
    · simp
    · split
      · rename_i h; subst h; simp
      · rw [List.mem_cons, insU_mem i k js, List.mem_cons]
        constructor
        · rintro (h | h | h)
          · exact .inr (.inl h)
          · exact .inl h
          · exact .inr (.inr h)
        · rintro (h | h | h)
          · exact .inr (.inl h)
          · exact .inl h
          · exact .inr (.inr h)
theorem insU_srt (i : Int) : ∀ {js : List Int}, js.Pairwise (· < ·) → (insU i js).Pairwise (· < ·)
  | [], _ => List.pairwise_singleton _ _
  | j :: js, h => by
    obtain ⟨a, b⟩ := List.pairwise_cons.mp h
    unfold insU
    split
    · rename_i hij
      exact List.pairwise_cons.mpr ⟨fun k hk => (List.mem_cons.mp hk).elim (fun e => e ▸ hij) fun z => Int.lt_trans hij (a k z), h⟩
    · split
      · exact h
      · rename_i h1 h2
        refine List.pairwise_cons.mpr ⟨fun k hk => ?_, insU_srt i b⟩
        rcases (insU_mem i k js).mp hk with e | e
        · omega
        · exact a k e
theorem insU_len (i : Int) : ∀ {js : List Int}, js.Pairwise (· < ·) → (insU i js).length = if i ∈ js then js.length else js.length + 1
  | [], _ => by simp [insU]
  | j :: js, h => by
    obtain ⟨a, b⟩ := List.pairwise_cons.mp h
    unfold insU
    split
    · rename_i hij
      rw [if_neg]
      · rfl
      · intro hm
        rcases List.mem_cons.mp hm with e | e
        · omega
        · have := a i e; omega
    · split
      · rename_i h2; subst h2; rw [if_pos List.mem_cons_self]
      · rename_i h1 h2
        rw [List.length_cons, insU_len i b]
        by_cases hm : i ∈ js
        · rw [if_pos hm, if_pos (List.mem_cons_of_mem _ hm)]; rfl
        · rw [if_neg hm, if_neg (fun z => (List.mem_cons.mp z).elim h2 hm)]; rfl
theorem usrt_snoc (cs : List Int) (c : Int) : usrt (cs ++ [c]) = insU c (usrt cs) := by unfold usrt; rw [List.foldl_append]; rfl
theorem rev_ind {α : Type} {P : List α → Prop} (h0 : P []) (hs : ∀ l a, P l → P (l ++ [a])) (l : List α) : P l := by
  have : ∀ l : List α, P l.reverse := by
    intro l
    induction l with
    | nil => exact h0
    | cons a l ih => rw [List.reverse_cons]; exact hs _ a ih
  have := this l.reverse
  rwa [List.reverse_reverse] at this
theorem usrt_ok (cs : List Int) : (usrt cs).Pairwise (· < ·) ∧ (∀ k, k ∈ usrt cs ↔ k ∈ cs) ∧ cntS (fun _ => false) 0 cs = (usrt cs).length := by
  refine rev_ind (P := fun cs => (usrt cs).Pairwise (· < ·) ∧ (∀ k, k ∈ usrt cs ↔ k ∈ cs) ∧ cntS (fun _ => false) 0 cs = (usrt cs).length) ⟨.nil, fun _ => Iff.rfl, rfl⟩ (fun l a ⟨h1, h2, h3⟩ => ?_) cs
  rw [usrt_snoc]
  refine ⟨insU_srt a h1, fun k => ?_, ?_⟩
  · rw [insU_mem, h2, List.mem_append, List.mem_singleton]; exact Or.comm
  · rw [cntS_snoc, insU_len a h1, h3]
    have e : putZ (fun _ => false) l a = true ↔ a ∈ usrt l := by rw [putZ_mem, h2]; simp
    by_cases hm : a ∈ usrt l
    · rw [if_pos (e.mpr hm), if_pos hm]
    · rw [if_neg (fun z => hm (e.mp z)), if_neg hm]
def emI (d : DE) : Ev → Rs Int := fun env => (d env).bindD fun y env => match y with
  | .int i => .ok i env
  | _ => .stuck
def dSortSc (it : Ev → Rs (List D)) (ws : List Nat) (tn : D → Ev → Rs (Option Int)) : DE := fun env => (dComp 4000 it ws tn (fun ads => .lst ((usrt ads).map .int)) env).bind fun t env => match t with
  | .lst ds => if ds.length < 64 then .ok (.lst ds) env else .stuck
  | _ => .stuck
section
variable {X : Cx} {W : WX} {F : Fm} {ps : List V} {σ : L2.St} {G H : Hp} {A : List Addr} {env : Ev} {elt tg iter : Expr} {ifs : List Expr} {scope : Scope} {own : List (Str × Nat)} {pos p pos2 : Pos} {it : Ev → Rs (List D)} {g : D → Ev → Option Ev} {t : Ev → Rs Bool} {d : DE}
theorem emits_si (he : ∀ s H C cl fp, SE (Bk X s H scope C cl fp) W0 elt d) (Dn : Addr) : Emits X Dn 4000 (fun _ ads o => o = SiO X.w Dn (putZ (fun _ => false) ads) (cntS (fun _ => false) 0 ads)) (emI d) fun σ2 H3 Nx => eAll X scope elt σ2 H3 fun y H4 => ∃ (c : Int) (S : Int → Bool) (n : Nat), y = .int c ∧ H4 Dn = some (SiO X.w Dn S n) ∧ n + 1 < scanBound ∧ Nx (upd H4 Dn (SiO X.w Dn (fun j => S j || decide (j = c)) (if S c = true then n else n + 1))) := by
  intro F ps σ G H A env ads o Nx I R hl hP h0 eo P sD HD CD clD fpD
  subst eo
  refine (he sD HD CD clD fpD).seqD I R (show ((d env).bindD fun y env => match y with
    | .int i => Rs.ok i env
    | _ => .stuck).post _ _ from P) fun z env6 vz G6 H6 A6 s6 I7 i7 R7 P5 => ?_
  cases z with
  | int c =>
    refine ⟨c, _, _, i7.intE, R7.keep Dn _ hP h0, ?_, ?_⟩
    · have h1 := cntS_le ads (fun _ => false) 0
      have h2 : (4001 : Nat) < scanBound := by decide
      omega
    · refine P5 G6 H6 A6 _ s6 I7 R7 ?_
      show _ = _
      rw [putZ_snoc, cntS_snoc]
  | _ => exact P5.elim
theorem si_run (hg : ∀ s H C cl fp, SGw (Bk X s H scope C cl fp) (own.map (·.2)) tg g) (ht : ∀ s H C cl fp, STs (Bk X s H scope C cl fp) W0 ifs t) (he : ∀ s H C cl fp, SE (Bk X s H scope C cl fp) W0 elt d) (hi : SI X W tg iter it) (nd : (own.map (·.2)).Nodup)
    {Q : VK} (I : EvIs X.K G H ps σ env A) (R : Rel F G H A) (P : (dComp 4000 it (own.map (·.2)) (turnE (own.map (·.2)) g t (emI d)) (fun ads => T.lst ((usrt ads).map .int)) env).post (fun u env' => ∀ Dn G' H' A' ads, u = T.lst ((usrt ads).map .int) → Same G G' → EvIs X.K G' H' ps σ env' A' → Rel F G' H' ([Dn] ++ A') → H' Dn = some (SiO X.w Dn (putZ (fun _ => false) ads) (cntS (fun _ => false) 0 ads)) → Q (.ref Dn) H') (exP X W F ps G)) :
    tSi X.w (RunIter X tg iter) (gAll X scope tg) (tAll X scope ifs) (eAll X scope elt) (own.map (·.2)) σ H Q :=
  comp_run (o0 := fun Dn => SiO X.w Dn (fun _ => false) 0) (f := fun ads => T.lst ((usrt ads).map .int)) (Ac := fun Dn _ ads o => o = SiO X.w Dn (putZ (fun _ => false) ads) (cntS (fun _ => false) 0 ads)) (fun _ _ _ _ _ _ h => h) (fun _ _ => rfl) (emits_si he) hg ht hi nd I R (P.imp (fun u env' _ h Dn G' H' A' o ads e s' I' R' ho eo => h Dn G' H' A' ads e s' I' R' (eo ▸ ho)) fun _ _ _ _ h => h)
theorem SE.sortSc (hm : X.mg "sorted" = none) (hg0 : Gl X "sorted") (hse : starEach [.SetComp elt [⟨tg, iter, ifs, 0⟩] scope pos2] X.env = (false, eval (.SetComp elt [⟨tg, iter, ifs, 0⟩] scope pos2) X.env) :: starEach [] X.env) (hpl : (backTo pos (starEach [] X.env)).any (·.1) = false)
    (hc : X.calm = true) (hN : X.N.Nodup) (ok : BlkOk X.N X.env.scope scope own) (nd : (own.map (·.2)).Nodup) (hs : ∀ x, foldedSetIterable iter X.env x = pure x) (hi : SI X W tg iter it)
    (hg : ∀ s H C cl fp, SGw (Bk X s H scope C cl fp) (own.map (·.2)) tg g) (ht : ∀ s H C cl fp, STs (Bk X s H scope C cl fp) W0 ifs t) (he : ∀ s H C cl fp, SE (Bk X s H scope C cl fp) W0 elt d) :
    SE X W (.Call (.Name "sorted" p) [.SetComp elt [⟨tg, iter, ifs, 0⟩] scope pos2] [] pos) (dSortSc it (own.map (·.2)) (turnE (own.map (·.2)) g t (emI d))) := fun F ps σ G H A Q env I R P =>
  PE.go (pe_callB (cr_sortedSet hc) hg0 hm (by decide +kernel) (pa_cons pe_run pa_nil hse) (by decide) (by decide) hse hpl) (PE.go (pe_si hc hN pi_run ok (fun s H C cl fp => ⟨fun pins s' σ H' v u Q J r h => (h s H C cl fp).r pins s' u J r⟩) (fun s H C cl fp => ⟨fun pins s' σ H' Q J h => (h s H C cl fp).r pins s' J⟩) (fun s H C cl fp => ⟨fun pins s' σ H' Q J h => (h s H C cl fp).r pins s' J⟩) hs)
    (si_run hg ht he hi nd I R ((post_bind P).imp (fun u env' _ h Dn G' H' A' ads e s' I' R' ho => by
      subst e
      have h : (if ((usrt ads).map D.int).length < 64 then Rs.ok (T.lst ((usrt ads).map .int)) env' else .stuck).post (okE X F ps σ G Q) (exP X W F ps G) := h
      obtain ⟨u1, u2, u3⟩ := usrt_ok ads
      by_cases hz : ((usrt ads).map D.int).length < 64
      · rw [if_pos hz] at h
        refine ⟨Dn, _, _, rfl, ho, by rw [u3]; simpa using hz, fun ns q pw mem len hq => ?_⟩
        have e : ns = usrt ads := sortedI_uniq pw u1 fun k => by rw [mem, putZ_mem, u2]; simp
        subst e
        have R2 := R'.right
        exact (show okE X F ps σ G Q (.lst ((usrt ads).map .int)) env' from h) (.ref q) G' _ A' [q] s' (I'.up (Same.refl G') (upd_off (R2.ne hq))) (.lst upd_same (IsL.of_ints _)) (R2.mine hq)
      · rw [if_neg hz] at h; exact h.elim) fun _ _ _ _ h => h)))
end
end Dn

namespace Dn
open PySem PySem.Spec PyProof.Rows L2
/-! ### the head's Hook with properties and facts of our own -/
/-- a property of a class: its name and its getter -/
structure PrD where
  C : Str
  f : Str
  d : He.DefD
/-- the property, its getter -/
def prP (K : PySem.W.Frag) (C f : Str) : Addr := match PySem.W.findIn K (.ref (He.ga K C)) f with
  | some (some (.ref p)) => p
  | _ => 0
def prG (K : PySem.W.Frag) (C f : Str) : Addr := match PySem.W.recIn K (prP K C f) "property" with
  | some (.ref g :: _) => g
  | _ => 0
def fnA (K : PySem.W.Frag) (a : Addr) : He.FnW := match K.lookup a with
  | some ⟨_, _, .func fd, _⟩ => some (fd.name, fd.qualname, fd.params, fd.body, fd.scope, fd.globals, fd.closure, fd.builtins)
  | _ => none
def okH (K : PySem.W.Frag) (d : He.DefD) (a : Addr) : Bool := PySem.W.keepIn K (.ref a) && (match K.lookup a with
  | some ⟨_, _, .func fd, _⟩ => PySem.W.codeIn K fd.code d.qual && (He.dflB K fd.defaults (d.dvs K) && He.kwdB K fd.kwdefaults (d.kws K))
  | _ => false)
theorem funA {K : PySem.W.Frag} {d : He.DefD} {a : Addr} (e : fnA K a = d.val) (c : okH K d a = true) : ∃ fd, FunD K d.name d.qual d.params d.body d.scope (d.dvs K) (d.kws K) a fd := by
  obtain ⟨kp, c2⟩ := He.ba c
  unfold fnA at e
  cases q : K.lookup a with
  | none => rw [q] at c2; cases c2
  | some o =>
    obtain ⟨oc, od, dt, osl⟩ := o
    rw [q] at c2 e
    cases dt with
    | func fd =>
      obtain ⟨n1, n2, n3, n4, n5, n6, n7, n8, n9, n10, n11, n12, n13, n14, n15⟩ := fd
      have e2 : (some (n1, n2, n3, n4, n5, n6, n7, n15) : He.FnW) = some (d.name, d.qual, d.params, .stmts d.body, d.scope, mainGlobals, [], builtinsNs) := e
      simp only [Option.some.injEq, Prod.mk.injEq] at e2
      obtain ⟨rfl, rfl, rfl, rfl, rfl, rfl, rfl, rfl⟩ := e2
      obtain ⟨k1, k2⟩ := He.ba c2
      obtain ⟨k3, k4⟩ := He.ba k2
      exact ⟨_, ⟨oc, od, n8, n9, n10, n11, n12, n13, n14, osl, rfl, q, k1, He.dflB_ok k3, He.kwdB_ok k4⟩, kp⟩
    | _ => cases c2
def PrD.ok (K : PySem.W.Frag) (p : PrD) : Bool :=
  He.eqO (PySem.W.findIn K (.ref (He.ga K p.C)) p.f) (some (some (.ref (prP K p.C p.f)))) && (He.eqO (PySem.W.specialIn K (.ref (prP K p.C p.f)) "__get__") (some (some (.builtin "property.__get__"))) &&
    (decide (PySem.W.takesIn K (.ref (prP K p.C p.f)) = some true) && ((match PySem.W.recIn K (prP K p.C p.f) "property" with
      | some (.ref _ :: _) => true
      | _ => false) && okH K p.d (prG K p.C p.f))))
theorem PrD.prop {K : PySem.W.Frag} {p : PrD} (c : p.ok K = true) (e : fnA K (prG K p.C p.f) = p.d.val) : PropOf K (He.ga K p.C) p.f (prP K p.C p.f) (prG K p.C p.f) ∧ ∃ fd, FunD K p.d.name p.d.qual p.d.params p.d.body p.d.scope (p.d.dvs K) (p.d.kws K) (prG K p.C p.f) fd := by
  obtain ⟨c1, c2⟩ := He.ba c
  obtain ⟨c3, c4⟩ := He.ba c2
  obtain ⟨c5, c6⟩ := He.ba c4
  obtain ⟨c7, c8⟩ := He.ba c6
  refine ⟨⟨He.eqO_ok c1, He.eqO_ok c3, of_decide_eq_true c5, ?_⟩, funA e c8⟩
  unfold prG
  cases q : PySem.W.recIn K (prP K p.C p.f) "property" with
  | none => rw [q] at c7; cases c7
  | some l =>
    cases l with
    | nil => rw [q] at c7; cases c7
    | cons v r =>
      cases v with
      | ref g => exact ⟨r, rfl⟩
      | _ => rw [q] at c7; cases c7
abbrev AlX : Type := (Bool × List He.FnW) × He.AlD
def obsX (qs : List (PySem.W.Frag → Bool)) (pr : List PrD) (fa : List He.Fa) (fn : List He.DefD) (K : PySem.W.Frag) : AlX :=
  (((qs.all fun q => q K) && pr.all fun p => p.ok K, pr.map fun p => fnA K (prG K p.C p.f)), He.obsD fa fn K)
def valX (pr : List PrD) (fn : List He.DefD) : AlX := ((true, pr.map fun p => p.d.val), He.valD fn)
def SaysX (qs : List (PySem.W.Frag → Bool)) (pr : List PrD) (fa : List He.Fa) (fn : List He.DefD) (K : PySem.W.Frag) : Prop := obsX qs pr fa fn K = valX pr fn
def obsXG (n : Nat) (qs : List (PySem.W.Frag → Bool)) (pr : List PrD) (fa : List He.Fa) (fn : List He.DefD) (g : Addr → Option Obj) : AlX := obsX qs pr fa fn (He.frG g (He.asD g n))
def hookX (n : Nat) (qs : List (PySem.W.Frag → Bool)) (pr : List PrD) (fa : List He.Fa) (fn : List He.DefD) : PySem.W.Hook where
  α := AlX
  obs := fun s => obsXG n qs pr fa fn s.heap.get?
  val := fun _ => valX pr fn
  says := fun _ h => ∃ K : PySem.W.Frag, K.In h ∧ SaysX qs pr fa fn K
  of := fun _ _ e => ⟨_, He.frG_in, e⟩
  keeps := fun _ _ _ ⟨K, hK, c⟩ k => ⟨K, PySem.W.Frag.In.keeps hK k, c⟩
theorem obsXG_eq {n : Nat} {qs : List (PySem.W.Frag → Bool)} {pr : List PrD} {fa : List He.Fa} {fn : List He.DefD} {g : Addr → Option Obj} {s : Shared} (h : ∀ a, g a = s.heap.get? a) : obsXG n qs pr fa fn g = (hookX n qs pr fa fn).obs s := by
  have e : g = s.heap.get? := funext h
  rw [e]; rfl
section
variable {qs : List (PySem.W.Frag → Bool)} {pr : List PrD} {fa : List He.Fa} {fn : List He.DefD} {K : PySem.W.Frag}
theorem SaysX.says (c : SaysX qs pr fa fn K) : He.SaysD fa fn K := congrArg (fun z : AlX => z.2) c
theorem SaysX.q (c : SaysX qs pr fa fn K) (i : Nat) {q : PySem.W.Frag → Bool} (h : qs[i]? = some q) : q K = true := by
  have c1 := (He.ba (show ((qs.all fun q => q K) && pr.all fun p => p.ok K) = true from congrArg (fun z : AlX => z.1.1) c)).1
  exact List.all_eq_true.mp c1 q (List.mem_of_getElem? h)
theorem SaysX.prop (c : SaysX qs pr fa fn K) (i : Nat) {p : PrD} (h : pr[i]? = some p) : PropOf K (He.ga K p.C) p.f (prP K p.C p.f) (prG K p.C p.f) ∧ ∃ fd, FunD K p.d.name p.d.qual p.d.params p.d.body p.d.scope (p.d.dvs K) (p.d.kws K) (prG K p.C p.f) fd := by
  have c2 := (He.ba (show ((qs.all fun q => q K) && pr.all fun p => p.ok K) = true from congrArg (fun z : AlX => z.1.1) c)).2
  have e : pr.map (fun p => fnA K (prG K p.C p.f)) = pr.map fun p => p.d.val := congrArg (fun z : AlX => z.1.2) c
  have e2 : (pr.map fun p => fnA K (prG K p.C p.f))[i]? = (pr.map fun p => p.d.val)[i]? := by rw [e]
  rw [List.getElem?_map, List.getElem?_map, h] at e2
  exact PrD.prop (List.all_eq_true.mp c2 p (List.mem_of_getElem? h)) (Option.some.inj e2)
end

/-- the table of the program: what its top has left -/
structure Tb (fa : List He.Fa) (fn : List He.DefD) (K : PySem.W.Frag) (mg : Str → Option Value) (h : Heap) : Prop where
  c : He.SaysD fa fn K
  X : K.In h
  G : h.Ns mainGlobals mg
structure TbX (qs : List (PySem.W.Frag → Bool)) (pr : List PrD) (fa : List He.Fa) (fn : List He.DefD) (K : PySem.W.Frag) (mg : Str → Option Value) (h : Heap) : Prop where
  c : SaysX qs pr fa fn K
  X : K.In h
  G : h.Ns mainGlobals mg
section
variable {P : Program} {w : World} {K : PySem.W.Frag} {mg : Str → Option Value} {base h : Heap} {A : Addr} {m x C : Str} {k : Nat} {ps : List Str} {sp : Sp} {fa : List He.Fa} {fn : List He.DefD} {d : He.DefD} {pr : List PrD} {qs : List (PySem.W.Frag → Bool)}
theorem TbX.tb (T : TbX qs pr fa fn K mg h) : Tb fa fn K mg h := ⟨T.c.says, T.X, T.G⟩
theorem Tb.glo (T : Tb fa fn K mg h) (x : Str) (i : Nat) (e : fa[i]? = some (.glo x)) : mg x = some (.ref (He.ga K x)) := He.glo_ok T.X T.G (T.c.fact i e)
theorem Tb.free (T : Tb fa fn K mg h) (x : Str) (i : Nat) (e : fa[i]? = some (.free x)) : mg x = none := He.free_ok T.X T.G (T.c.fact i e)
theorem Tb.int (T : Tb fa fn K mg h) (x : Str) (n : Int) (i : Nat) (e : fa[i]? = some (.int x n)) : ∃ t, mg x = some (.int n t) := He.int_ok T.X T.G (T.c.fact i e)
theorem Tb.str (T : Tb fa fn K mg h) (x z : Str) (i : Nat) (e : fa[i]? = some (.str x z)) : ∃ t, mg x = some (.str z t) := He.str_ok T.X T.G (T.c.fact i e)
abbrev BindsAll (d : He.DefD) (ps : List Str) : Prop := ∀ (kV doc pm : Value) (an : Option Addr) (cdv ct : Value) (us : List Value), us.length = ps.length → bindArgs (PySem.W.fnOf d.name d.qual d.params d.body d.scope .none kV doc pm an cdv ct) ⟨us, []⟩ = pure (ps.zip us)
theorem callee_of {f : Addr} (FD : ∃ fd, FunD K d.name d.qual d.params d.body d.scope (d.dvs K) (d.kws K) f fd) (hd : d.dfl = []) (hk : d.kwd = []) (hb : BindsAll d ps)
    (ok : ∀ fd, FunD K d.name d.qual d.params d.body d.scope [] [] f fd → FnG P w K mg base (L2.CX P w) k f fd ps sp) : Callee P w K mg base f k ps [] sp := by
  obtain ⟨fd, FD⟩ := FD
  have e2 : d.dvs K = [] := by unfold He.DefD.dvs; rw [hd]; rfl
  have e3 : d.kws K = [] := by unfold He.DefD.kws; rw [hk]; rfl
  rw [e2, e3] at FD
  obtain ⟨oc, od, dV, kV, doc, pm, an, cdv, ct, osl, h1, h2, _, h4, _⟩ := id FD.ex
  obtain rfl : dV = .none := h4.elim (fun z => z.2) fun z => absurd rfl z.1
  exact ⟨fd, [], ok fd FD, h1 ▸ .all (hb kV doc pm an cdv ct), .nil, _, _, _, h2⟩
/-- a def without defaults -/
theorem def1 (T : Tb fa fn K mg h) (m : mg x = some (.ref (He.ga K x))) (i : Nat) (e : fn[i]? = some d) (hx : d.at_ = (x, none)) (hd : d.dfl = []) (hk : d.kwd = []) (hb : BindsAll d ps)
    (ok : ∀ fd, FunD K d.name d.qual d.params d.body d.scope [] [] (He.ga K x) fd → FnG P w K mg base (L2.CX P w) k (He.ga K x) fd ps sp) : Def1 P w K mg base x k ps [] sp := by
  have FD := T.c.def_ i e
  have e1 : He.fAd K d.at_ = He.ga K x := by rw [hx]; rfl
  rw [e1] at FD
  obtain ⟨fd, FD'⟩ := id FD
  exact ⟨m, FD'.kp, callee_of FD hd hk hb ok⟩
/-- a def with defaults: n values are written, the defaults behind the first j fill up -/
theorem def2 {dv : List V} (T : Tb fa fn K mg h) (m : mg x = some (.ref (He.ga K x))) (i : Nat) (e : fn[i]? = some d) (hx : d.at_ = (x, none)) (hd : d.dvs K = dv) (hk : d.kwd = [])
    (n j : Nat) (hne : dv ≠ []) (hn : n + (dv.length - j) = ps.length)
    (hb : ∀ (T : Addr) (kV doc pm : Value) (an : Option Addr) (cdv ct : Value) (us its : List Value), us.length = n → its.length = dv.length →
      ∃ k, bindArgs (PySem.W.fnOf d.name d.qual d.params d.body d.scope (.ref T) kV doc pm an cdv ct) ⟨us, []⟩ = seqItems? (.ref T) >>= k ∧ k (some its.toArray) = pure (ps.zip (us ++ its.drop j)))
    (ok : ∀ fd, FunD K d.name d.qual d.params d.body d.scope dv [] (He.ga K x) fd → FnG P w K mg base (L2.CX P w) k (He.ga K x) fd ps sp) : Def1 P w K mg base x k ps (dv.drop j) sp := by
  obtain ⟨fd, FD⟩ := T.c.def_ i e
  have e1 : He.fAd K d.at_ = He.ga K x := by rw [hx]; rfl
  have e3 : d.kws K = [] := by unfold He.DefD.kws; rw [hk]; rfl
  rw [e1, hd, e3] at FD
  obtain ⟨ds, vd, bd⟩ := FD.binds1 (ps := ps) n j hne hn hb
  obtain ⟨oc, od, dV, kV, doc, pm, an, cdv, ct, osl, h1, h2, _⟩ := id FD.ex
  exact ⟨m, FD.kp, fd, ds, ok fd FD, bd, vd, _, _, _, h2⟩
/-- a method without defaults -/
theorem defm (T : Tb fa fn K mg h) (cl : Cls K (He.ga K C)) (mt : Meth K (He.ga K C) m (He.ma K (He.ga K C) m)) (i : Nat) (e : fn[i]? = some d) (hx : d.at_ = (C, some m)) (hd : d.dfl = []) (hk : d.kwd = []) (hb : BindsAll d ps)
    (ok : ∀ fd, FunD K d.name d.qual d.params d.body d.scope [] [] (He.ma K (He.ga K C) m) fd → FnG P w K mg base (L2.CX P w) k (He.ma K (He.ga K C) m) fd ps sp) : DefM P w K mg base C m k ps [] sp := by
  have FD := T.c.def_ i e
  have e1 : He.fAd K d.at_ = He.ma K (He.ga K C) m := by rw [hx]; rfl
  rw [e1] at FD
  exact ⟨cl, mt, callee_of FD hd hk hb ok⟩
theorem defm2 {dv : List V} (T : Tb fa fn K mg h) (cl : Cls K (He.ga K C)) (mt : Meth K (He.ga K C) m (He.ma K (He.ga K C) m)) (i : Nat) (e : fn[i]? = some d) (hx : d.at_ = (C, some m)) (hd : d.dvs K = dv) (hk : d.kwd = [])
    (n j : Nat) (hne : dv ≠ []) (hn : n + (dv.length - j) = ps.length)
    (hb : ∀ (T : Addr) (kV doc pm : Value) (an : Option Addr) (cdv ct : Value) (us its : List Value), us.length = n → its.length = dv.length →
      ∃ k, bindArgs (PySem.W.fnOf d.name d.qual d.params d.body d.scope (.ref T) kV doc pm an cdv ct) ⟨us, []⟩ = seqItems? (.ref T) >>= k ∧ k (some its.toArray) = pure (ps.zip (us ++ its.drop j)))
    (ok : ∀ fd, FunD K d.name d.qual d.params d.body d.scope dv [] (He.ma K (He.ga K C) m) fd → FnG P w K mg base (L2.CX P w) k (He.ma K (He.ga K C) m) fd ps sp) : DefM P w K mg base C m k ps (dv.drop j) sp := by
  obtain ⟨fd, FD⟩ := T.c.def_ i e
  have e1 : He.fAd K d.at_ = He.ma K (He.ga K C) m := by rw [hx]; rfl
  have e3 : d.kws K = [] := by unfold He.DefD.kws; rw [hk]; rfl
  rw [e1, hd, e3] at FD
  obtain ⟨ds, vd, bd⟩ := FD.binds1 (ps := ps) n j hne hn hb
  obtain ⟨oc, od, dV, kV, doc, pm, an, cdv, ct, osl, h1, h2, _⟩ := id FD.ex
  exact ⟨cl, mt, fd, ds, ok fd FD, bd, vd, _, _, _, h2⟩
theorem defi (T : Tb fa fn K mg h) (g : mg C = some (.ref (He.ga K C))) (mk : Mk K (He.ga K C) (He.ma K (He.ga K C) "__init__")) (i : Nat) (e : fn[i]? = some d) (hx : d.at_ = (C, some ("__init__" : Str))) (hd : d.dfl = []) (hk : d.kwd = []) (hb : BindsAll d ps)
    (ok : ∀ fd, FunD K d.name d.qual d.params d.body d.scope [] [] (He.ma K (He.ga K C) "__init__") fd → FnG P w K mg base (L2.CX P w) k (He.ma K (He.ga K C) "__init__") fd ps sp) : DefI P w K mg base C k ps [] sp := by
  have FD := T.c.def_ i e
  have e1 : He.fAd K d.at_ = He.ma K (He.ga K C) "__init__" := by rw [hx]; rfl
  rw [e1] at FD
  exact ⟨g, mk, callee_of FD hd hk hb ok⟩
theorem defp {p : PrD} (T : TbX qs pr fa fn K mg h) (cl : Cls K (He.ga K p.C)) (i : Nat) (e : pr[i]? = some p) (hd : p.d.dfl = []) (hk : p.d.kwd = []) (hb : BindsAll p.d ps)
    (ok : ∀ f fd, FunD K p.d.name p.d.qual p.d.params p.d.body p.d.scope [] [] f fd → FnG P w K mg base (L2.CX P w) k f fd ps sp) : DefP P w K mg base p.C p.f k ps sp := by
  obtain ⟨h1, h2⟩ := T.c.prop i e
  exact ⟨cl, _, _, h1, callee_of h2 hd hk hb (ok _)⟩
end
/-! the law's own entry -/
theorem law_g {P : Program} {w : World} {K : PySem.W.Frag} {mg mb : Str → Option Value} {CX : CXT} {k : Nat} {fa a : Addr} {fd : FuncData} {x : Str} {sp : Sp} {s₁ : Shared} {vs : List Value} {ns : List Int}
    (KX : K.In s₁.heap) (hns : s₁.heap.Ns mainGlobals mg) (hb : s₁.heap.Ns builtinsNs mb) (hbb : ∀ x : Str, x ≠ "__name__" → mb x = bootBuiltins x) (hlim : s₁.heap.NoLimit) (hg : s₁.gens = #[])
    (ha : s₁.heap.get? a = some { cls := .type "list", data := .seq vs.toArray }) (hi : IntsAre vs ns) (hl : ns.length ≤ sizeLine) (hr : Room k callerA)
    (F : ∀ base : Heap, K.In base → base.Ns mainGlobals mg → FnG P w K mg base CX k fa fd [x] sp) (hbind : ∀ (s : Shared) (u : Value), BindsTo s fd ⟨[u], []⟩ [(x, u)])
    (hsp : ∀ H : Hp, Only H → SqL K H a (ns.map V.int) → sp [.ref a] H (fun v _ => v = .bl true) fun _ _ _ => False)
    (hCX : ∀ H e s', CX [] H s₁ (fun _ _ _ => False) e s' → False) :
    codeAny (model P w) callerA (.call (.ref fa) ⟨[.ref a], []⟩) (fun r s' => r = .ok (.ret (.bool true)) ∧ OldK s₁.heap s'.heap ∧ s'.os = s₁.os ∧ AllBare s'.gens) s₁ := by
  let scr : HO := .frz { cls := .type "list", data := .seq vs.toArray } (.lst (ns.map V.int))
  -- the heap in which the script alone is known, if it is none of the module's own
  obtain ⟨H, hH, hS⟩ : ∃ H : Hp, (∀ b, H b = none ∨ (b = a ∧ K.lookup a = none ∧ H b = some scr)) ∧ SqL K H a (ns.map V.int) := by
    cases hk : K.lookup a with
    | some o =>
      have e := KX a o hk
      rw [ha] at e
      cases e
      exact ⟨fun _ => none, fun _ => .inl rfl, .inr ⟨_, vs.toArray, _, hk, rfl, rfl, rfl, by rw [List.size_toArray, hi.length]; exact hl, by simpa using vals_ints hi⟩⟩
    | none =>
      refine ⟨upd (fun _ => none) a scr, fun b => ?_, .inl (.inr ⟨_, upd_same⟩)⟩
      by_cases e : b = a
      · exact .inr ⟨e, rfl, by rw [e]; exact upd_same⟩
      · exact .inl (upd_ne e)
  have hO : Only H := fun b => (hH b).imp id fun z => ⟨_, _, z.2.2⟩
  have hok : HOk P w H s₁.heap := fun b u z => by
    rcases hH b with q | ⟨rfl, _, q⟩
    · rw [q] at z; cases z
    · rw [q] at z; cases z
      exact ⟨ha, by rw [List.length_map]; exact hl, vs, _, vals_ints hi, ha⟩
  have base_of : ∀ {b : Addr} {o : Obj}, s₁.heap.get? b = some o → H b = none → (hidT s₁.heap H).get? b = some o := fun e n => hidT_get e n
  have noA : ∀ {b : Addr} {o : Obj} {es : Array DictEntry} {ep : Nat}, s₁.heap.get? b = some o → o.data = .dict es ep → H b = none := fun {b o es ep} e d => by
    rcases hH b with q | ⟨rfl, _, _⟩
    · exact q
    · rw [ha] at e; cases e; cases d
  have nsK : ∀ {b : Addr} {m : Str → Option Value}, s₁.heap.Ns b m → (hidT s₁.heap H).Ns b m := fun z => let ⟨o, es, ep, e, d, r⟩ := z; ⟨o, es, ep, base_of e (noA e d), d, r⟩
  have hKb : K.In (hidT s₁.heap H) := fun b o e => base_of (KX b o e) (by
    rcases hH b with q | ⟨rfl, q, _⟩
    · exact q
    · rw [q] at e; cases e)
  have e0 : Env0 P w K mg (hidT s₁.heap H) callerA [] s₁ H :=
    ⟨rfl, ⟨hKb, nsK hns, ⟨mb, nsK hb, hbb⟩, (let ⟨mc, h1, h2⟩ := hlim; ⟨mc, nsK h1, h2⟩)⟩, fun b o e => of_hidT e, Nat.le_of_eq (hidT_size _ _), trivial, fun b hb => (by cases (show b ∈ ([] : List Addr) from hb)), hok, .of_eq hg⟩
  refine codeAny_mono ((F _ hKb (nsK hns)).run callerA [] s₁ H ⟨[.ref a], []⟩ [.ref a] [.ref a] _ _ hr rfl e0 (hbind s₁ (.ref a)) (.cons rfl .nil) (hsp H hO hS)) fun r s' h => ?_
  match r, h with
  | .error e, h => exact (hCX H e s' h).elim
  | .ok (.ret u), h =>
    obtain ⟨v, H', os, bare, un, hok', r', q⟩ := h
    obtain rfl : v = .bl true := q
    obtain rfl : u = Value.bool true := r'
    refine ⟨rfl, OldK.of_keep fun b o e => ?_, os, bare⟩
    rcases hH b with q | ⟨rfl, _, q⟩
    · exact un.keep b o e q (fun z => by cases (show b ∈ ([] : List Addr) from z)) (by simp)
    · obtain ⟨e2, _⟩ := hok' b _ (un.frzs b _ _ q)
      rw [ha] at e; cases e
      exact e2
theorem walk_g {l : PySem.W.OpenLaw} {n k : Nat} {q : Program} {loose : List Str} {XP : (Str → Option Value) → Heap → Prop} {YP : World → Heap → Prop} {d : DefRec} {CX : World → CXT} {x : Str}
    (hn : l.most = some n) (hn2 : n ≤ sizeLine) (hdf : d.params.defaults = []) (hr : Room k callerA)
    (F : ∀ (w : World) (mg : Str → Option Value) (fa : Addr) (h : Heap), YP w h → h.Ns mainGlobals mg → mg d.name = some (.ref fa) →
      ∃ (K : PySem.W.Frag) (fd : FuncData) (sp : Sp), K.In h ∧ (∀ (s : Shared) (u : Value), BindsTo s fd ⟨[u], []⟩ [(x, u)]) ∧
        (∀ (H : Hp) (a : Addr) (ns : List Int), ns.length ≤ n → Only H → SqL K H a (ns.map V.int) → sp [.ref a] H (fun v _ => v = .bl true) fun _ _ _ => False) ∧
        ∀ base : Heap, K.In base → base.Ns mainGlobals mg → FnG l.prog w K mg base (CX w) k fa fd [x] sp)
    (hCX : ∀ (w : World) (H : Hp) (s : Shared) (e : Value) (s' : Shared), CX w [] H s (fun _ _ _ => False) e s' → False) :
    PySem.W.WalkO q loose XP YP l.row.toRowW d [] (fun f vs => PySem.call f vs) :=
  Att.attach_call hn hdf fun w s₀ s₁ mg mb fa o pm cd doc a vs ns G Y ho hd hcd hmg hobj hints hlen hg =>
    let ⟨K, fd, sp, KX, hb, hsp, hF⟩ := F w mg fa _ Y G.T.g hmg
    law_g KX G.T.g G.T.b G.T.builtins G.T.nolimit hg hobj hints (Nat.le_trans hlen hn2) hr hF hb (fun H hO hS => hsp H a ns hlen hO hS) fun H e s' => hCX w H s₁ e s'

/-- the law's own entry: its function answers True -/
theorem spLaw_of {K : PySem.W.Frag} {H : Hp} {a : Addr} {ns : List Int} {Fn' : Fn} {back : List T} (h : SqL K H a (ns.map V.int)) (e : Fn' [.d (.scr ns)] = .ok (.d (.bool true)) back) : spF K [false] Fn' [.ref a] H (fun v _ => v = .bl true) fun _ _ _ => False := by
  refine ⟨[.d (.scr ns)], [], H, TIsL.cons (A := []) (.d (.scr ns h)) .nil, ⟨.inr rfl, trivial⟩, Same.refl H, .nil, (fun b hb => by cases hb), ?_⟩
  rw [e]
  intro v G' H' A' B r t tb
  cases t with
  | d t => exact t.boolE
theorem cx_false {P : Program} {w : World} (H : Hp) (s : Shared) (e : Value) (s' : Shared) (h : L2.CX P w [] H s (fun _ _ _ => False) e s') : False := by
  obtain ⟨_, _, _, _, _, _, _, _, _, _, _, _, hE⟩ := h
  exact hE
end Dn

namespace Dn
open PySem PySem.Spec PyProof.Rows L2
/-! ### argument lists without * -/
def plE : Expr → Bool
  | .Starred _ _ => false
  | _ => true
theorem sp {e : Expr} {es : List Expr} {env : Env} (h : plE e = true) : starEach (e :: es) env = (false, eval e env) :: starEach es env := by
  cases e <;> first | rfl | cases h
theorem sps {e : Expr} {es : List Expr} {env : Env} {p : Pos} (h : e = .Starred e p) : True := trivial
theorem bt {pos : Pos} {env : Env} : ∀ {es : List Expr}, es.all plE = true → (backTo pos (starEach es env)).any (·.1) = false
  | [], _ => rfl
  | e :: es, h => by
    obtain ⟨h1, h2⟩ := (Bool.and_eq_true _ _).mp (show (plE e && es.all plE) = true from h)
    rw [sp h1]
    show (false || (backTo pos (starEach es env)).any (·.1)) = false
    rw [bt h2]; rfl
theorem ap {e : Expr} {es : List Expr} {env : Env} (h : plE e = true) : (assignEach (e :: es) env).map (·.2) = assign e env :: (assignEach es env).map (·.2) := by
  cases e <;> first | rfl | cases h
/-! ### the blocks within a def -/
def atB (b : List Stmt) (i : Nat) : Stmt := b.getD i (.Pass ⟨0, 0, 0, 0⟩)
def foB : Stmt → List Stmt
  | .For _ _ b _ _ => b
  | _ => []
def whB : Stmt → List Stmt
  | .While _ b _ _ => b
  | _ => []
def ifB : Stmt → List Stmt
  | .If _ b _ _ => b
  | _ => []
def elB : Stmt → List Stmt
  | .If _ _ b _ => b
  | _ => []
/-- a name that is read -/
structure Nm (N : List Str) (sc : Scope) (i : Nat) (x : Str) : Prop where
  hN : N[i]? = some x
  hv : visB sc x = true
  hd : (x == ("__debug__" : Str)) = false
  hcd : (x == ("__classdict__" : Str)) = false
/-- a name that is written -/
structure Lc (N : List Str) (sc : Scope) (i : Nat) (x : Str) : Prop where
  hi : N[i]? = some x
  hx : locB sc x = true
section
variable {X : Cx} {W : WX} {e e2 e3 value : Expr} {es : List Expr} {x y m C : Str} {i j : Nat} {pos p p1 p2 px py pt apos cpos : Pos} {d d1 d2 : DE} {dv : Ev → Rs D} {kt k2 : Nat} {ws : List Nat} {k : Nat} {qs : List Str} {dvs : List V} {mask : List Bool} {Fn' : Fn} {pl : Sem Bool} {dr : Ev → Rs (List RA)}
theorem SE.varN (n : Nm X.N X.env.scope i x) : SE X W (.Name x pos) (dVar i) := SE.var n.1 n.2 n.3 n.4
theorem SV.pkN (n : Nm X.N X.env.scope i x) : SV X W (.Name x pos) (Dn.pk i) := SV.pk n.1 n.2 n.3 n.4
theorem SE.bpN {op : Operator} {o : D → D → Option T} (ho : OpV X (binaryOp op) o) (n : Nm X.N X.env.scope i x) (h2 : SV X W e2 dv) : SE X W (.BinOp (.Name x p2) op e2 pos) (dBp o i dv) := SE.bp ho n.1 n.2 n.3 n.4 h2
theorem SE.cmppN {op : CmpOp} {o : D → D → Option T} (ho : OpV X (compareOp op) o) (hm : behindInMarks op e2 = false) (n : Nm X.N X.env.scope i x) (h2 : SV X W e2 dv) : SE X W (.Compare (.Name x p2) [op] [e2] pos) (dBp o i dv) := SE.cmpp ho hm n.1 n.2 n.3 n.4 h2
theorem ST.cmppN {op : CmpOp} {o : D → D → Option T} (ho : OpV X (compareOp op) o) (hm : behindInMarks op e2 = false) (n : Nm X.N X.env.scope i x) (h2 : SV X W e2 dv) : ST X W (.Compare (.Name x p2) [op] [e2] pos) (aB (dBp o i dv)) := ST.cmpp ho hm n.1 n.2 n.3 n.4 h2
theorem SE.ixpN (hu : X.A.units + 64 < cLine) (hs : PlainIx e2) (n : Nm X.N X.env.scope i x) (h2 : SV X W e2 dv) : SE X W (.Subscript (.Name x p2) e2 pos) (dIxp i dv) := SE.ixp hu hs n.1 n.2 n.3 n.4 h2
theorem SPl.nameN (n : Nm X.N X.env.scope i x) : SPl X (.Name x pos) i [] := SPl.name n.1 n.2 n.3 n.4
theorem SR.oN (hs : starEach (.Name x p :: es) X.env = (false, eval (.Name x p) X.env) :: starEach es X.env) (n : Nm X.N X.env.scope i x) (t : SR X W es dr) : SR X W (.Name x p :: es) (rO i dr) := SR.o hs n.1 n.2 n.3 n.4 t
theorem SE.methON (tk : Takes X W) (hr : Room k X.A) (hgd : X.A.guards = some []) (D' : DefM X.prog X.w X.K X.mg X.base C m k qs dvs (spF X.K mask Fn')) (he : starEach (e :: es) X.env = (false, eval e X.env) :: starEach es X.env) (hpl : (backTo cpos (starEach es X.env)).any (·.1) = false)
    (ht : MethEq X (.Name x p) m apos cpos (e :: es) pl) (n : Nm X.N X.env.scope i x) (ha : SR X W (e :: es) dr) : SE X W (.Call (.Attribute (.Name x p) m apos) (e :: es) [] cpos) (dMethO C m mask Fn' dvs i dr) := SE.methO tk hr hgd D' he hpl ht n.1 n.2 n.3 n.4 ha
theorem SE.methO0N (tk : Takes X W) (hr : Room k X.A) (hgd : X.A.guards = some []) (D' : DefM X.prog X.w X.K X.mg X.base C m k qs dvs (spF X.K mask Fn'))
    (ht : MethEq X (.Name x p) m apos cpos [] pl) (n : Nm X.N X.env.scope i x) : SE X W (.Call (.Attribute (.Name x p) m apos) [] [] cpos) (dMethO C m mask Fn' dvs i rNil) := SE.methO0 tk hr hgd D' ht n.1 n.2 n.3 n.4
theorem SS.retNN (n : Nm X.N X.env.scope i x) : SS X W (.Return (some (.Name x p1)) pos) (dRetV i) := SS.retN n.1 n.2 n.3 n.4
theorem SQI.nameN (n : Nm X.N X.env.scope i x) : SQI X (.Name x pos) (dSlot i) := SQI.name n.1 n.2 n.3 n.4
theorem SS.setN (hN : X.N.Nodup) (l : Lc X.N X.env.scope i x) (hf : fnB X x = true) (hs : swapsWith e (some (.Name x p1)) pos.line X.env = pure false) (h : SE X W e d) : SS X W (.Assign [.Name x p1] e pos) (dSet i d) := SS.set hN l.1 l.2 hf hs h
theorem SG.nameN (hN : X.N.Nodup) (l : Lc X.N X.env.scope i x) (hf : fnB X x = true) : SG X (.Name x pos) (gNm i) := SG.name hN l.1 l.2 hf
theorem SGw.nameN (hN : X.N.Nodup) (l : Lc X.N X.env.scope i x) (hf : fnB X x = true) (hw : i ∈ ws) : SGw X ws (.Name x pos) (gNm i) := SGw.name hN l.1 l.2 hf hw
theorem SS.augAddN (hN : X.N.Nodup) (l : Lc X.N X.env.scope i x) (hf : fnB X x = true) (h : SE X W e d) : SS X W (.AugAssign (.Name x px) .Add e pos) (dAug i (fun a b => a + b) d) := SS.augAdd hN l.1 l.2 hf h
theorem SS.augSubN (hN : X.N.Nodup) (l : Lc X.N X.env.scope i x) (hf : fnB X x = true) (h : SE X W e d) : SS X W (.AugAssign (.Name x px) .Sub e pos) (dAug i (fun a b => a - b) d) := SS.augSub hN l.1 l.2 hf h
def dNoL : Ev → Rs (List D) := fun _ => .stuck
theorem SI.no {tg : Expr} : SI X W tg e dNoL := fun F ps σ G H A Q env I R P => P.elim
theorem swD_true {kx vx : Expr} {gs : List Comprehension} {scope : Scope} {pos py : Pos} {y : Str} {l : Nat} {env : Env} (hk : env.scope.kind = .function) (hy : env.scope.names.lookup y = some .local) (hl : (py.line == pos.line) = true)
    (ha : (scope.names.any fun (n, k) => n == y && (k == .local || k == .cell)) = false) : swapsWith (.DictComp kx vx gs scope pos) (some (.Name y py)) l env = pure true := by
  have ky : env.kindOf y = some .local := hy
  have hb : env.blockKind = .function := by unfold Env.blockKind; rw [hk]; rfl
  unfold swapsWith
  simp only [hb, ky, ha, Expr.pos, hl]
  rfl
/-- list(range(n)) -/
def dListRng (d : DE) : DE := fun env => (d env).bindD fun x env => match x with
  | .int n => if 0 ≤ n ∧ n ≤ 1000000 then .ok (.lst (rngL 0 n.toNat)) env else .stuck
  | _ => .stuck
theorem rg_isL {K : PySem.W.Frag} {G : Hp} (lo : Int) : ∀ n : Nat, IsL K G ((List.range n).map fun k : Nat => V.int (lo + k)) (rngL lo n)
  | 0 => .nil
  | n + 1 => by
    rw [List.range_succ_eq_map, List.map_cons, List.map_map]
    refine .cons (by simpa using Is.int lo) ?_
    have := rg_isL (K := K) (G := G) (lo + 1) n
    have e : ((List.range n).map fun k : Nat => V.int (lo + 1 + k)) = (List.range n).map ((fun k : Nat => V.int (lo + k)) ∘ Nat.succ) := by
      apply List.map_congr_left
      intro k _
      show V.int (lo + 1 + k) = V.int (lo + (k + 1 : Nat))
      congr 1; omega
    rw [← e]; exact this
theorem SE.listRng {p2 pos2 : Pos} (hc : X.calm = true) (hm : X.mg "list" = none) (hm2 : X.mg "range" = none) (hg : Gl X "list") (hg2 : Gl X "range") (hs : starEach [.Call (.Name "range" p2) [e] [] pos2] X.env = (false, eval (.Call (.Name "range" p2) [e] [] pos2) X.env) :: starEach [] X.env) (hs2 : starEach [e] X.env = (false, eval e X.env) :: starEach [] X.env) (h : SE X W e d) :
    SE X W (.Call (.Name "list" p) [.Call (.Name "range" p2) [e] [] pos2] [] pos) (dListRng d) := fun F ps σ G H A Q env I R P =>
  PE.go (pe_listRg hc hg hm (prg_1 hg2 hm2 pe_run hs2) hs) (h.seqD I R P fun x env1 v G1 H1 A1 s1 I1 i1 R1 P1 => by
    cases x with
    | int n =>
      have P1 : (if 0 ≤ n ∧ n ≤ 1000000 then Rs.ok (T.lst (rngL 0 n.toNat)) env1 else .stuck).post (okE X F ps σ G Q) (exP X W F ps G1) := P1
      by_cases hz : 0 ≤ n ∧ n ≤ 1000000
      · rw [if_pos hz] at P1
        refine ⟨n, i1.intE, RgOk.of_le (by omega) (by omega) (by omega) (by omega), fun q hq => ?_⟩
        have r := rg_isL (K := X.K) (G := G1) 0 n.toNat
        have e : rgV 0 n = (List.range n.toNat).map fun k : Nat => V.int (0 + k) := by unfold rgV; rw [Int.sub_zero]
        rw [e]
        exact (okO_of I1 R1 s1 P1).lst r R1 hq
      · rw [if_neg hz] at P1; exact P1.elim
    | _ => exact P1.elim)
/-! ### x in o as a test -/
theorem in_ownT {neg : Bool} {op : CmpOp} (hop : op = if neg = true then .NotIn else .In) (hr : Room k X.A) (hgd : X.A.guards = some []) (D' : DefM X.prog X.w X.K X.mg X.base C "__contains__" k qs [] (spF X.K [false, false] Fn')) (hm : behindInMarks op e2 = false)
    (h1 : SE X W e d) (h2 : SE X W e2 d2) : ST X W (.Compare e [op] [e2] pos) (aB (dInO C Fn' neg d d2)) := fun F ps σ G H A Q env I R P =>
  PT.go (pt_cmpR opr_run pe_run pe_run hm) (h1.seqD (f := fun x env => (d2 env).bindD fun y env => (if instC C y = true then (callQ Fn' 2 [] [y, x] env).bind (tB' neg) else .stuck).bind tB) (ok := okT X F ps σ G Q) I R (by
      unfold aB dInO at P
      rw [bindD_bind] at P
      have e : (fun x env => ((d2 env).bindD fun y env => if instC C y = true then (callQ Fn' 2 [] [y, x] env).bind (tB' neg) else .stuck).bind tB) = (fun x env => (d2 env).bindD fun y env => (if instC C y = true then (callQ Fn' 2 [] [y, x] env).bind (tB' neg) else .stuck).bind tB) := by
        funext x env; rw [bindD_bind]
      rw [← e]; exact P) fun x env1 v G1 H1 A1 s1 I1 i1 R1 P1 => h2.seqD I1 R1 P1 fun y env2 u G2 H2 A2 s2 I2 i2 R2 P2 => by
    by_cases hz : instC C y = true
    · rw [if_pos hz, bind_bind] at P2
      obtain ⟨t, et, P3⟩ := callQ_bind P2
      cases t with
      | d z =>
        cases z with
        | bool b =>
          obtain ⟨a, dx, fs, rfl, ha⟩ := instC_is i2 hz
          rw [hop]
          have P3 : okT X F ps σ G Q (xor neg b) env2 := P3
          refine op_own hr hgd D' hz I2 R2 (i1.up s2) i2 et fun v' G' H' B s' k' t' r' => ?_
          cases t' with
          | d t' => cases t'; exact ⟨_, rfl, P3 G' H' A2 ((s1.trans s2).trans s') (I2.up s' k') r'⟩
        | _ => exact P3.elim
      | _ => exact P3.elim
    · rw [if_neg hz] at P2; exact P2.elim)
theorem ST.inO (hr : Room k X.A) (hgd : X.A.guards = some []) (D' : DefM X.prog X.w X.K X.mg X.base C "__contains__" k qs [] (spF X.K [false, false] Fn')) (hm : behindInMarks .In e2 = false)
    (h1 : SE X W e d) (h2 : SE X W e2 d2) : ST X W (.Compare e [.In] [e2] pos) (aB (dInO C Fn' false d d2)) := in_ownT (neg := false) rfl hr hgd D' hm h1 h2
theorem ST.notInO (hr : Room k X.A) (hgd : X.A.guards = some []) (D' : DefM X.prog X.w X.K X.mg X.base C "__contains__" k qs [] (spF X.K [false, false] Fn')) (hm : behindInMarks .NotIn e2 = false)
    (h1 : SE X W e d) (h2 : SE X W e2 d2) : ST X W (.Compare e [.NotIn] [e2] pos) (aB (dInO C Fn' true d d2)) := in_ownT (neg := true) rfl hr hgd D' hm h1 h2
end
end Dn

namespace Dn
open PySem PySem.Spec PyProof.Rows L2
/-! ### list(o.values()) -/
def tListVals (td : TE) : TE := fun σ H Q => td σ H fun x H1 => ∃ a kvs, x = V.ref a ∧ Rd H1 a (.dK kvs) ∧ ∀ p, H1 p = none → Q (.ref p) (upd H1 p (.lst (kvs.map (·.2))))
theorem vals_of {κ : Type} {kvs : List (κ × V)} {vs : List (κ × Value)} (r : KV kvs vs) : ∀ {us : List Value}, us.length = vs.length → (∀ (j : Nat) (v : Value), us[j]? = some v → ∃ k, vs[j]? = some (k, v)) → Vals (kvs.map (·.2)) us := by
  unfold KV at r
  induction r with
  | nil =>
    intro us hl h
    cases us with
    | nil => exact .nil
    | cons _ _ => simp at hl
  | @cons a b as bs r t ih =>
    intro us hl h
    cases us with
    | nil => simp at hl
    | cons u us =>
      obtain ⟨k, e⟩ := h 0 u rfl
      have e' : b = (k, u) := by simpa using e
      subst e'
      refine .cons r.2 (ih (by simpa using hl) fun j v e => ?_)
      obtain ⟨k, e2⟩ := h (j + 1) v (by simpa using e)
      exact ⟨k, by simpa using e2⟩
section
variable {X : Cx} {W : WX} {o e : Expr} {p pos apos mpos cpos : Pos} {td : TE} {d d2 : DE}
theorem pe_listVals (hc : X.calm = true) (hg : Gl X "list") (hm : X.mg "list" = none) (hd : PE X o td) (hbase : attributeBase o "values" X.env (eval o X.env) = eval o X.env) (hline : (apos.endLine == mpos.line) = true)
    (hse : starEach [Expr.Call (.Attribute o "values" apos) [] [] mpos] X.env = [(false, eval (Expr.Call (.Attribute o "values" apos) [] [] mpos) X.env)]) :
    PE X (.Call (.Name "list" p) [.Call (.Attribute o "values" apos) [] [] mpos] [] pos) (tListVals td) := by
  refine ⟨fun pins s σ H Q I h => ?_⟩
  refine wpAny_Call_Name_kw (ld_blt I hg hm (u := .type "list") (by first | rfl | decide +kernel) ?_ (by first | decide +kernel | decide) (by first | decide +kernel | decide))
  rw [hse]
  refine PySem.callWith_type1 (wpAny_Call_method0_late hbase hline (thn (hd.run pins s σ H _ I h) fun v s1 ⟨x, H1, I1, r1, a, kvs, ex, ha, q⟩ => ?_))
  subst ex
  obtain rfl : v = Value.ref a := r1
  obtain ⟨z, hsys, vs, rel, dof⟩ := dk_rd I1.hok ha
  obtain ⟨ep, dat⟩ := dof.dictAt
  have dat' := dat
  obtain ⟨ob, es, ho, ex, hdat, hko, hpr, hnd⟩ := dat'
  refine ⟨"dict", "dict.values", F.plainAttrs_dict, F.slot_dict_values, F.type_dict_values, ⟨ob, ho, ex.1⟩, fun b e => ?_, Calls.callWith_builtin rfl (PySem.evalArgs_none ?_)⟩
  · cases e
    exact ⟨ob, ho, ex.2.1⟩
  refine call_meetsIn F.slot_dict_values ⟨ob, ho, ex.1⟩ F.entry_dict_values (F.args_dict_values_1 _) (meets_dict_values (mixKind X.prog X.w) a hsys) ⟨⟨vs, dof⟩, ?_⟩
  have k1 : ∀ b u, s1.heap.get? b = some u → (s1.heap.push { cls := .type "dict_values", data := .fields #[.ref a] }).get? b = some u := fun b u e => Heap.get?_push_of_some _ e
  have dat1 : (s1.heap.push { cls := .type "dict_values", data := .fields #[.ref a] }).DictAt (mixKind X.prog X.w) a vs ep := dat.keep k1
  refine PySem.W.kdl_call (PySem.W.kdl_values (knd := mixKind X.prog X.w) (kvs := vs) (ep := ep) (r := s1.heap.objs.size) (d := a)) (I1.ok.hd hc) ⟨⟨_, Heap.get?_push_size _ rfl, rfl, rfl⟩, dat1⟩ (by rw [← rel.length]; exact z) fun h' tk acc c' hk hD hacc => ?_
  have I2 : Inv X pins σ H1 { s1 with heap := s1.heap.push { cls := .type "dict_values", data := .fields #[.ref a] } } := I1.kept (t' := s1.toks) fun b ob q => Heap.get?_push_of_some _ q
  have hv : Vals (kvs.map (·.2)) acc.toList := vals_of rel (by rw [Array.length_toList]; exact hacc.1) fun j v e => hacc.2 j v (by rw [← Array.getElem?_toList]; exact e)
  refine ⟨.ref (s1.heap.push { cls := .type "dict_values", data := .fields #[.ref a] }).objs.size, upd H1 (s1.heap.push { cls := .type "dict_values", data := .fields #[.ref a] }).objs.size (.lst (kvs.map (·.2))), I2.laid (t' := tk) hk (Nat.le_refl _)
    (show ObjOk X.prog X.w _ _ _ (.lst (kvs.map (·.2))) from ⟨by rw [List.length_map]; exact z, acc.toList, c', hv, by rw [Array.toArray_toList]; exact hD⟩), rfl, q _ (I2.hok.fresh (Nat.le_refl _))⟩
def dListVals (d : DE) : DE := fun env => (d env).bindD fun x env => match x with
  | .dict _ ds => .ok (.lst ds) env
  | _ => .stuck
theorem SE.listVals (hc : X.calm = true) (hm : X.mg "list" = none) (hg : Gl X "list") (hbase : attributeBase o "values" X.env (eval o X.env) = eval o X.env) (hline : (apos.endLine == mpos.line) = true)
    (hse : starEach [Expr.Call (.Attribute o "values" apos) [] [] mpos] X.env = [(false, eval (Expr.Call (.Attribute o "values" apos) [] [] mpos) X.env)]) (h : SE X W o d) :
    SE X W (.Call (.Name "list" p) [.Call (.Attribute o "values" apos) [] [] mpos] [] pos) (dListVals d) := fun F ps σ G H A Q env I R P =>
  PE.go (pe_listVals hc hg hm pe_run hbase hline hse) (h.seqD I R P fun x env1 v G1 H1 A1 s1 I1 i1 R1 P1 => by
    cases x with
    | dict ks ds =>
      obtain ⟨a, od, kv, rfl, ha, hk, r⟩ := i1.dictE
      exact ⟨a, kv, rfl, .inr ⟨od, R1.gh _ _ ha⟩, fun q hq => (okO_of I1 R1 s1 P1).lst r R1 hq⟩
    | _ => exact P1.elim)
/-! ### dict(pairs), dict(d) -/
def kpairs : List D → Option (List (Key × D))
  | [] => some []
  | .tup [k, v] :: r => (keyD k).bind fun j => (kpairs r).map ((j, v) :: ·)
  | _ => none
def oDict : D → Option T
  | .list ds => (kpairs ds).map dictOf
  | .dict ks ds => some (.dict ks ds)
  | _ => none
theorem pairs_is {F : Fm} {A : List Addr} {G H : Hp} (R : Rel F G H A) : ∀ {ds : List D} {xs : List V} {ks : List (Key × D)}, IsL X.K G xs ds → kpairs ds = some ks →
    ∃ (ps : List Addr) (kvs : List (Key × V)), xs = ps.map V.ref ∧ Paired (fun p kv => SqT X.K H p [kV kv.1, kv.2]) ps kvs ∧ kvs.map (·.1) = ks.map (·.1) ∧ IsL X.K G (kvs.map (·.2)) (ks.map (·.2))
  | [], _, ks, h, e => by cases h; cases e; exact ⟨[], [], rfl, .nil, rfl, .nil⟩
  | x :: ds, _, ks, h, e => by
    cases h with
    | cons h t =>
      cases x with
      | tup es =>
        match es, e with
        | [], e => cases e
        | [_], e => cases e
        | _ :: _ :: _ :: _, e => cases e
        | [k, v], e =>
          obtain ⟨j, e1, e2⟩ := Option.bind_eq_some_iff.mp (show (keyD k).bind (fun j => (kpairs ds).map ((j, v) :: ·)) = some ks from e)
          obtain ⟨ks', e3, rfl⟩ := Option.map_eq_some_iff.mp e2
          obtain ⟨ps, kvs, rfl, q2, q3, q4⟩ := pairs_is R t e3
          obtain ⟨a, ys, rfl, ha, r⟩ := h.tupE
          cases r with
          | cons r1 r =>
            cases r with
            | cons r2 r =>
              cases r
              have ek := keyD_vw (r1.vw R.gh) e1
              subst ek
              exact ⟨a :: ps, (j, _) :: kvs, rfl, .cons (SqT.of (R.gh _ _ ha)) q2, congrArg (j :: ·) q3, .cons r2 q4⟩
      | _ => cases e
theorem OkO.dict {F : Fm} {G H : Hp} {A : List Addr} {Q : VK} {kv : List (Key × V)} {ks : List Key} {ds : List D} {p : Addr} (k : OkO X F G H A Q (.dict ks ds)) (hk : kv.map (·.1) = ks) (h : IsL X.K G (kv.map (·.2)) ds) (R : Rel F G H A) (hp : H p = none) : Q (.ref p) (upd H p (.dK kv)) :=
  k _ G _ [p] (Same.refl G) (upd_off (R.ne hp)) (.dict upd_same hk h) (R.mine hp)
theorem cv_dict (hc : X.calm = true) : CallV1 X (.type "dict") oDict := fun F A G H v x t Q R h e k => by
  cases x with
  | list ds =>
    obtain ⟨ks, e1, rfl⟩ := Option.map_eq_some_iff.mp (show (kpairs ds).map dictOf = some t from e)
    obtain ⟨a, xs, rfl, ha, r⟩ := h.list _ rfl
    obtain ⟨ps, kvs, rfl, q2, q3, q4⟩ := pairs_is R r e1
    refine CallR.go (call_dictP hc) ⟨a, ps, kvs, rfl, SqL.of ha, q2, fun p hp => ?_⟩
    obtain ⟨z1, z2⟩ := putAll_is (kv0 := []) (ds0 := []) q3 q4 .nil
    exact k.dict z1 z2 R hp
  | dict ks ds =>
    cases e
    obtain ⟨a, kv, rfl, ha, hk, r⟩ := h.dict _ _ rfl
    exact CallR.go call_dictD ⟨a, kv, rfl, ha, fun p hp => k.dict hk r R hp⟩
  | _ => cases e
/-! ### d.get(k), d.get(k, x) -/
def getE' (ks : List Key) (ds : List D) (y x : D) : Option D := (keyD y).map fun k => (lookK ks ds k).getD x
def dGet1 (d1 d2 : DE) : DE := fun env => (d1 env).bindD fun x env => match x with
  | .dict ks ds => (d2 env).bindD fun y env => ofD (getE' ks ds y .none) env
  | _ => .stuck
theorem lookK_dget {G H : Hp} {a : Addr} {kv : List (Key × V)} {ds : List D} {y : D} {u : V} {k : Key} (ha : Rd H a (.dK kv)) (r : IsL X.K G (kv.map (·.2)) ds) (ek : u = kV k) {z : V} {w : D} (hz : Is X.K G z w) :
    ∃ o, DGet H a u o ∧ Is X.K G (o.getD z) ((lookK (kv.map (·.1)) ds k).getD w) := by
  cases q : lookK (kv.map (·.1)) ds k with
  | some x =>
    obtain ⟨v, e1, e2⟩ := lookK_val r q
    exact ⟨some v, .inl ⟨kv, k, ha, ek, e1.symm⟩, e2⟩
  | none =>
    have e1 := lookK_isSome (j := k) r
    rw [q] at e1
    cases e2 : valV kv k with
    | some v => rw [e2] at e1; cases e1
    | none => exact ⟨none, .inl ⟨kv, k, ha, ek, e2.symm⟩, hz⟩
theorem SE.get1 (hu : X.A.units + 64 < cLine) (m : M1 X o "get" apos e cpos) (h : SE X W o d) (h2 : SE X W e d2) : SE X W (.Call (.Attribute o "get" apos) [e] [] cpos) (dGet1 d d2) := fun F ps σ G H A Q env I R P =>
  PE.go (pe_dget1 (by omega) pe_run pe_run m) (h.seqD I R P fun x env1 v G1 H1 A1 s1 I1 i1 R1 P1 => by
    cases x with
    | dict ks ds =>
      obtain ⟨a, od, kv, rfl, ha, hk, r⟩ := i1.dictE
      subst hk
      refine ⟨a, rfl, .inl ⟨kv, .inr ⟨od, R1.gh _ _ ha⟩⟩, h2.seqD I1 R1 P1 fun y env2 u G2 H2 A2 s2 I2 i2 R2 P2 => ?_⟩
      unfold getE' at P2
      cases q : keyD y with
      | none => rw [q] at P2; exact P2.elim
      | some k =>
        rw [q] at P2
        obtain ⟨o', g, iz⟩ := lookK_dget (X := X) (y := y) (H := H2) (.inr ⟨od, R2.gh _ _ (s2 _ _ ha)⟩) (r.up s2) (keyD_vw (i2.vw R2.gh) q) (z := .non) (w := .none) .non
        exact ⟨o', g, P2 _ G2 H2 A2 [] (s1.trans s2) I2 (.d iz) R2⟩
    | _ => exact P1.elim)
end
end Dn

/-! {**d, k: v} -/
namespace Dn
open PySem PySem.Spec PyProof.Rows L2
section
variable {prog : Program} {w : World} {K : Type} [DecidableEq K] {knd : KeyKind prog w K} {A : Around} {E : Value → Shared → Prop} {s : Shared}
theorem put_pairs {d : Addr} {kvs : List (K × Value)} {k : K} {key v : Value} {Q : Unit → Shared → Prop} (hkey : knd.is k key = true) (hm : s.heap.DictOf knd d kvs)
    (hQ : ∀ h', h'.DictOf knd d (stored kvs k v) → Heap.SameBut d s.heap h' → Q () { s with heap := h' })
    (hsz : kvs.length ≤ sizeLine) :
    wpAny (model prog w) A (dictPut d (knd.hash k) key v) Q E s := by
  obtain ⟨o, es, ep, ho, hc, hd, hk, hp, hn⟩ := hm
  have hes : es.size ≤ sizeLine := by have e1 := hp.length; have e2 : es.toList.length = es.size := by simp
                                      omega
  unfold dictPut
  refine wpAny_bind (wpAny_dictFind_of hkey ho hd hk ?_)
  have hidx : (es.findIdx? fun e => knd.is k e.key) = kvs.findIdx? fun kv => decide (kv.1 = k) := by
    rw [← hp.findIdx k]; obtain ⟨l⟩ := es; simp
  cases hi : es.findIdx? fun e => knd.is k e.key with
  | some i =>
    refine wpAny_updateDict ho hd (hQ _ ⟨_, _, ep, Heap.get?_update_self _ ho (Obj.isFreed_of_dict (Obj.data_mapDict hd _)),
      hc.mapDict _, Obj.data_mapDict hd _, hk.modify _ _, ?_, ?_⟩ (Heap.SameBut.update ..))
    · rw [stored, if_pos (any_of_findIdx_some (hidx ▸ hi))]
      have hl : (es.toList.findIdx? fun e => knd.is k e.key) = some i := by rw [← hi]; obtain ⟨l⟩ := es; simp
      have := hp.modify hn hl v
      obtain ⟨l⟩ := es
      simpa using this
    · rw [stored, if_pos (any_of_findIdx_some (hidx ▸ hi)), keys_map_store]; exact hn
  | none =>
    have hnot : k ∉ kvs.map (·.1) := not_mem_of_findIdx_none (hidx ▸ hi)
    have hany : ¬ (kvs.any fun kv => decide (kv.1 = k)) = true := by
      rw [List.any_eq_true]; rintro ⟨kv, hkv, he⟩
      exact hnot (List.mem_map.mpr ⟨kv, hkv, of_decide_eq_true he⟩)
    refine wpAny_updateDictKeys (hz := hes) ho hd (hQ _ ⟨_, _, ep + 1, Heap.get?_update_self _ ho (Obj.isFreed_of_dict (Obj.data_mapDictKeys hd _)),
      hc.mapDictKeys _, Obj.data_mapDictKeys hd _, hk.push hkey _, ?_, ?_⟩ (Heap.SameBut.update ..))
    · rw [stored, if_neg hany]
      have := hp.append hkey (knd.hash k) v
      obtain ⟨l⟩ := es
      simpa using this
    · rw [stored, if_neg hany, List.map_append, List.nodup_append]
      refine ⟨hn, by simp, ?_⟩
      intro a ha b hb
      simp only [List.map_cons, List.map_nil, List.mem_singleton] at hb
      subst hb
      exact fun e => hnot (e ▸ ha)
end
section
variable {prog : Program} {w : World} {A : Around} {E : Value → Shared → Prop} {s : Shared}
theorem merge_map {d o : Addr} {kvs more : List (Key × Value)} {Q : Unit → Shared → Prop} (hdo : d ≠ o) (hoS : (o == sysModules) = false)
    (hd : s.heap.DictOf (mixKind prog w) d kvs) (ho : s.heap.DictOf (mixKind prog w) o more) (hsz : kvs.length + more.length ≤ sizeLine)
    (hQ : ∀ h', h'.DictOf (mixKind prog w) d (merged kvs more) → h'.DictOf (mixKind prog w) o more → Heap.SameBut d s.heap h' → Q () { s with heap := h' }) :
    wpAny (model prog w) A (mergeMapping d (.ref o) false) Q E s := by
  obtain ⟨od, esd, epd, hod, hcd, hdd, hkd, hpd, hnd⟩ := id hd
  obtain ⟨oo, eso, epo, hoo, hco, hdo', hko, hpo, hno⟩ := id ho
  have hlen : more.length = eso.size := by rw [← hpo.length]; simp
  unfold mergeMapping
  refine wpAny_bind (wpAny_isInstance ho.typeIs isSubtype_dict_dict ?_)
  dsimp only
  rw [if_pos rfl]
  refine wpAny_bind (wpAny_specialOf ho.typeIs F.slot_dict_iter.lookup ?_)
  refine wpAny_bind (wpAny_pure ?_)
  rw [show ((some (Value.builtin "dict.__iter__") : Option Value) == some (Value.builtin "dict.__iter__")) = true from by simp]
  dsimp only
  rw [if_neg (by rw [hoS]; exact Bool.false_ne_true)]
  refine wpAny_bind (wpAny_dictEntries hod hdd ?_)
  have hmx : ∀ x, (merged kvs (more.take x)).length ≤ sizeLine := fun x => by
    have e1 := merged_length_le kvs (more.take x)
    have e2 : (more.take x).length ≤ more.length := by rw [List.length_take]; omega
    omega
  split
  case' isTrue =>
    refine wpAny_bind (wpAny_dictEntries hoo hdo' ?_)
    rw [← Array.forIn_toList]
    refine wpAny_bind (wpAny_forIn_list _ (fun rest _ s' => s' = s ∧ ∀ e ∈ rest, ∃ k, keyIs k e.key = true) _ (fun x rest b s' hI => by
      obtain ⟨rfl, hr⟩ := hI
      obtain ⟨k, hk⟩ := hr x List.mem_cons_self
      rcases keyIs_shape hk with ⟨i, t, _, e⟩ | ⟨y, t, _, e⟩ <;> (rw [e]; exact wpAny_pure ⟨rfl, fun z hz => hr z (List.mem_cons_of_mem _ hz)⟩)) ?_ _ _ ⟨rfl, fun e he => by
      obtain ⟨k, h1, _⟩ := hko e (by simpa using he)
      exact ⟨k, h1⟩⟩)
    rintro b s' ⟨e0, _⟩
    rw [e0]
  all_goals
    refine wpAny_bind (wpAny_dictEntries hoo hdo' ?_)
    refine wpAny_bind (wpAny_dictEpoch hoo hdo' ?_)
    refine wpAny_bind (wpAny_forIn_list _
      (fun rest _ s' => ∃ h' i, s' = { s with heap := h' } ∧ rest = List.range' i (eso.size - i) ∧ i ≤ eso.size ∧ h'.DictOf (mixKind prog w) d (merged kvs (more.take i)) ∧ h'.get? o = some oo ∧ Heap.SameBut d s.heap h')
      _ ?_ ?_ _ _ ⟨s.heap, 0, rfl, by rw [List.range_eq_range']; simp, Nat.zero_le _, by simpa [merged] using hd, hoo, Heap.SameBut.refl _ _⟩)
    · rintro x rest b s' ⟨h', i, rfl, hr, hi, hd', hoo', hs'⟩
      have hlt : i < eso.size := by
        rcases Nat.lt_or_ge i eso.size with h | h
        · exact h
        · rw [Nat.sub_eq_zero_of_le h] at hr; simp at hr
      obtain ⟨rfl, hrest⟩ : x = i ∧ rest = List.range' (i + 1) (eso.size - (i + 1)) := by
        have e : eso.size - i = (eso.size - (i + 1)) + 1 := by omega
        rw [e, List.range'_succ] at hr
        injection hr with h1 h2
        exact ⟨h1, h2⟩
      refine wpAny_bind (wpAny_dictEntries hoo' hdo' ?_)
      rw [Array.getElem?_eq_getElem hlt]
      obtain ⟨kv, hkv⟩ : ∃ kv, more[x]? = some kv := ⟨more[x]'(by rw [hlen]; exact hlt), List.getElem?_eq_getElem _⟩
      obtain ⟨k, v⟩ := kv
      obtain ⟨hkey, hval⟩ := hpo.get? (e := eso[x]) (by simp [hlt]) hkv
      obtain ⟨k', hkey', hhash⟩ := hko eso[x] (Array.getElem_mem hlt)
      obtain rfl : k' = k := (mixKind prog w).inj _ _ _ hkey' hkey
      dsimp only
      rw [if_neg (by decide), hhash, hval]
      refine wpAny_bind (wpAny_holding (put_pairs (hsz := hmx x) hkey hd' fun h'' hd'' hs'' => ?_))
      have hoo'' : h''.get? o = some oo := (hs''.2 o (Ne.symm hdo)).trans hoo'
      refine wpAny_bind (wpAny_dictEpoch hoo'' hdo' ?_)
      rw [if_neg (by simp)]
      exact wpAny_pure ⟨h'', x + 1, rfl, hrest, hlt, by rw [merged_take_succ kvs more x (k', v) hkv]; exact hd'', hoo'', hs'.trans hs''⟩
    · rintro b s' ⟨h', i, rfl, hr, hi, hd', hoo', hs'⟩
      have hin : i = eso.size := by
        rcases Nat.lt_or_ge i eso.size with h | h
        · have e : eso.size - i = (eso.size - (i + 1)) + 1 := by omega
          rw [e, List.range'_succ] at hr; exact nomatch hr
        · exact Nat.le_antisymm hi h
      refine wpAny_pure (hQ h' ?_ ⟨oo, eso, epo, hoo', hco, hdo', hko, hpo, hno⟩ hs')
      rw [hin, ← hlen, List.take_length] at hd'; exact hd'
theorem disp_walk {t1 tk tv : Sem Value} {Q : Value → Shared → Prop} {S : Addr} (hS : S = s.heap.objs.size)
    (h : wpAny (model prog w) A t1 (fun m s1 => wpAny (model prog w) A (mergeMapping S m false) (fun _ s2 => wpAny (model prog w) A (subDict [(tk, tv)]) (fun T s3 => wpAny (model prog w) A (mergeMapping S (.ref T) false) (fun _ s4 => Q (.ref S) s4) (fun _ _ => False) s3) E s2) (fun _ _ => False) s1) E
      { s with heap := s.heap.push { cls := .type "dict", data := .dict #[] } }) : wpAny (model prog w) A (dictDisplay [(none, t1), (some tk, tv)]) Q E s := by
  subst hS
  unfold dictDisplay
  dsimp only
  simp only [List.forIn_cons, List.forIn_nil, List.isEmpty_nil, if_true, pure_bind, bind_assoc, List.nil_append, List.length_cons, List.length_nil]
  refine wpAny_bind (wpAny_alloc ?_)
  refine wpAny_bind (wpAny_holding (wpAny_mono h (fun m s1 h1 => ?_) fun _ _ x => x))
  refine wpAny_bind (wpAny_onRaise (wpAny_tryCatch (wpAny_onRaise (wpAny_holding (wpAny_mono h1 (fun _ s2 h2 => ?_) fun _ _ x => x.elim)))))
  rw [if_neg (by decide)]
  simp only [pure_bind, List.isEmpty_cons, Bool.false_eq_true, if_false, bind_assoc]
  refine wpAny_bind (wpAny_holding (wpAny_mono h2 (fun T s3 h3 => ?_) fun _ _ x => x))
  refine wpAny_bind (wpAny_onRaise (wpAny_holding (wpAny_mono h3 (fun _ s4 h4 => ?_) fun _ _ x => x.elim)))
  exact wpAny_pure h4
end
def tStar (td tk tv : TE) : TE := fun σ H Q => ∀ p, H p = none → td σ (upd H p (.dK [])) fun x H1 => ∃ a kvs, x = V.ref a ∧ a ≠ p ∧ Rd H1 a (.dK kvs) ∧ H1 p = some (.dK []) ∧ kvs.length ≤ 1000 ∧
  ∀ q, H1 q = none → q ≠ p → tk σ (upd (upd H1 p (.dK kvs)) q (.dK [])) fun y H2 => tv σ H2 fun z H3 => ∃ k, y = kV k ∧ H3 p = some (.dK kvs) ∧ H3 q = some (.dK []) ∧ Q (.ref p) (upd (upd H3 q (.dK [(k, z)])) p (.dK (putK kvs k z)))
theorem dictOf_nd {K : Type} [DecidableEq K] {prog : Program} {w : World} {knd : KeyKind prog w K} {h : Heap} {d : Addr} {kvs : List (K × Value)} (m : h.DictOf knd d kvs) : (kvs.map (·.1)).Nodup := let ⟨_, _, _, _, _, _, _, _, hn⟩ := m; hn
theorem pe_star {X : Cx} {e1 ek ev : Expr} {pos : Pos} {td tk tv : TE} (h1 : PE X e1 td) (hk : PE X ek tk) (hv : PE X ev tv) : PE X (.Dict [none, some ek] [e1, ev] pos) (tStar td tk tv) := by
  refine ⟨fun pins s σ H Q I h => ?_⟩
  show wpAny _ _ (do standAt pos; dictDisplay [(none, do let x ← eval e1 X.env; standAt pos; pure x), (some (eval ek X.env), do let x ← eval ev X.env; standAt pos; pure x)]) _ _ s
  refine wpAny_bind (wpAny_standAt ?_)
  have hn := I.hok.fresh (Nat.le_refl s.heap.objs.size)
  have I1 := I.laid (a := s.heap.objs.size) (o := .dK []) (h' := s.heap.push { cls := .type "dict", data := .dict #[] }) (t' := s.toks) (fun _ _ q => Heap.get?_push_of_some _ q) (Nat.le_refl _) (dk_empty s.heap I.big)
  refine disp_walk rfl (wpAny_bind (thn (h1.run pins _ σ _ _ I1 (h _ hn)) fun u s1 hh => wpAny_bind (wpAny_standAt (wpAny_pure ?_))))
  obtain ⟨x, H1, J1, rx, a, kvs, ex, hap, ha, hp, hl, q1⟩ := hh
  subst ex
  obtain rfl : u = Value.ref a := rx
  generalize s.heap.objs.size = p at *
  obtain ⟨z, hd, vs, rel, dd⟩ := dk_rd J1.hok ha
  obtain ⟨z0, hd0, vs0, r0, dd0⟩ := dk_of J1.hok hp
  cases r0
  have lv : vs.length ≤ 1000 := by rw [← KV.length rel]; exact hl
  have sl := sizeLine_eq
  refine merge_map (Ne.symm hap) hd dd0 dd (by rw [List.length_nil]; omega) fun h' m1 m2 hs => ?_
  rw [merged_nil_of_nodup vs (dictOf_nd dd)] at m1
  have J2 : Inv X pins σ (upd H1 p (.dK kvs)) { s1 with heap := h' } := d_write (t' := s1.toks) J1 (by rw [hp]; exact True.intro) hs (let ⟨q, _, _, hq, _⟩ := m1; ⟨q, hq⟩) (dk_new z hd0 rel m1)
  have hn2 := J2.hok.fresh (Nat.le_refl h'.objs.size)
  have hqp : h'.objs.size ≠ p := fun e => by rw [e, upd_same] at hn2; cases hn2
  rw [upd_ne hqp] at hn2
  have J3 := J2.laid (a := h'.objs.size) (o := .dK []) (h' := h'.push { cls := .type "dict", data := .dict #[] }) (t' := s1.toks) (fun _ _ q => Heap.get?_push_of_some _ q) (Nat.le_refl _) (dk_empty h' J2.big)
  refine wpAny_subDict (knd := mixKind X.prog X.w) (by show 1 ≤ 15; decide) ?_
  show wpAny _ _ (evalPairs (pairTrees [some ek] [ev] X.env pos)) _ _ _
  refine pairTrees_cons_walk (thn (hk.run pins _ σ _ _ J3 (q1 _ hn2 hqp)) fun u2 s2 ⟨y, H2, J4, ry, q2⟩ => thn (hv.run pins s2 σ H2 _ J4 q2) fun u3 s3 hh => pairTrees_nil_walk ?_)
  obtain ⟨w3, H3, J5, rz, k, ey, hp3, hq3, q3⟩ := hh
  subst ey
  generalize h'.objs.size = q at *
  obtain ⟨z5, hd5, vs5, r5, dd5⟩ := dk_of J5.hok hq3
  cases r5
  refine ⟨[(k, u3)], ⟨kV_is ry, rfl, True.intro⟩, dd5, fun h4 m4 hs4 => ?_⟩
  have e4 : merged [] [(k, u3)] = [(k, u3)] := by simp [merged, stored]
  rw [e4] at m4
  have J6 : Inv X pins σ (upd H3 q (.dK [(k, w3)])) { s3 with heap := h4, toks := s3.toks + [(u2, u3)].length } := d_write (t' := s3.toks + [(u2, u3)].length) J5 (by rw [hq3]; exact True.intro) hs4 (let ⟨q, _, _, hq, _⟩ := m4; ⟨q, hq⟩) (dk_new (by rw [sl]; show 1 ≤ 16777216; decide) hd5 (.cons ⟨rfl, rz⟩ .nil) m4)
  have hp6 : (upd H3 q (.dK [(k, w3)])) p = some (.dK kvs) := by rw [upd_ne (Ne.symm hqp)]; exact hp3
  obtain ⟨z6, hd6, vs6, r6, dd6⟩ := dk_of J6.hok hp6
  have l6 : vs6.length ≤ 1000 := by rw [← KV.length r6]; exact hl
  refine merge_map (Ne.symm hqp) hd5 dd6 m4 (by show vs6.length + 1 ≤ _; omega) fun h7 m7 _ hs7 => ?_
  have e7 : merged vs6 [(k, u3)] = stored vs6 k u3 := rfl
  rw [e7] at m7
  have lp := length_putK kvs k w3
  exact ⟨.ref p, _, d_write (t' := s3.toks + [(u2, u3)].length) J6 (by rw [hp6]; exact True.intro) hs7 (let ⟨q, _, _, hq, _⟩ := m7; ⟨q, hq⟩) (dk_new (by omega) hd6 (r6.put k rz) m7), rfl, q3⟩
def dStarK (d1 dk dv : DE) : DE := fun env => (d1 env).bindD fun x env => match x with
  | .dict ks ds => if ks.length ≤ 1000 then (dk env).bindD fun y env => (dv env).bindD fun z env => match keyD y with
    | some k => .ok (.dict (putKs ks k) (putDs ks ds k z)) env
    | none => .stuck else .stuck
  | _ => .stuck
theorem bindD_split {β : Type} {r : Rs T} {f : D → Ev → Rs β} {ok : β → Ev → Prop} {ex ex' : XC → Fds → Ev → Prop} (hx : ∀ c fs e, ex c fs e → ex' c fs e) (P : (r.bindD f).post ok ex) : (r.bindD fun x e => Rs.ok x e).post (fun x e => (f x e).post ok ex) ex' := by
  cases r with
  | ok t e => exact P
  | exc c fs e => exact hx c fs e P
  | stuck => exact P
section
variable {X : Cx} {W : WX} {e1 ek ev : Expr} {pos : Pos} {d1 dk dv : DE}
theorem SE.starK (h1 : SE X W e1 d1) (hk : SE X W ek dk) (hv : SE X W ev dv) : SE X W (.Dict [none, some ek] [e1, ev] pos) (dStarK d1 dk dv) := fun F ps σ G H A Q env I R P => by
  refine PE.go (pe_star pe_run pe_run pe_run) fun p hp => ?_
  have R1 : Rel F G (upd H p (.dK [])) (A ++ [p]) := (R.mine hp).perm (by show (p :: A).Perm _; exact (List.perm_append_singleton p A).symm)
  have I1 : EvIs X.K G (upd H p (.dK [])) ps σ env A := I.up (Same.refl G) (upd_off (R.ne hp))
  have R2 := R1.start (B := A) (fun b hb => List.mem_append_left _ hb) R1.left.nd
  have P2 := bindD_split (ex' := exP X W ⟨G, upd H p (.dK []), fun a => a ∈ A⟩ ps G) (fun c fs e' h => exP_back (F' := F) R1 h) P
  refine h1.seqD I1 R2 P2 fun x env1 v G1 H1 A1 s1 I2 i1 R3 P1 => ?_
  have P1 : Rs.post _ (okE X F ps σ G Q) (exP X W F ps G) := P1
  cases x with
  | dict ks ds =>
    obtain ⟨a, od, kv, rfl, ha, hkk, r⟩ := i1.dictE
    dsimp only at P1
    by_cases hl : ks.length ≤ 1000
    · rw [if_pos hl] at P1
      obtain ⟨r8, s8, k8⟩ := Rel.back (B := A) (A := [p]) R1 R3
      have hp1 : H1 p = some (.dK []) := by rw [k8 p List.mem_cons_self]; exact upd_same
      have hap : a ≠ p := fun e => by
        have := (r8.fp p (List.mem_append_right _ List.mem_cons_self)).1
        rw [← e, ha] at this; cases this
      refine ⟨a, kv, rfl, hap, .inr ⟨od, R3.gh _ _ ha⟩, hp1, by rw [← List.length_map (f := fun z : Key × V => z.1), hkk]; exact hl, fun q hq hqp => ?_⟩
      have R4 : Rel F G1 (upd H1 p (.dK kv)) (A1 ++ [p]) := r8.put (List.mem_append_right _ List.mem_cons_self)
      have hq4 : (upd H1 p (.dK kv)) q = none := by rw [upd_ne hqp]; exact hq
      have R5 : Rel F G1 (upd (upd H1 p (.dK kv)) q (.dK [])) (A1 ++ [p, q]) := (R4.mine hq4).perm (by
        show (q :: (A1 ++ [p])).Perm (A1 ++ [p, q])
        have := List.perm_append_singleton q (A1 ++ [p])
        rw [List.append_assoc] at this
        exact this.symm)
      have n1 : ∀ b ∈ A1, b ≠ p := fun b hb e => r8.dj p List.mem_cons_self (e ▸ hb)
      have I4 : EvIs X.K G1 (upd (upd H1 p (.dK kv)) q (.dK [])) ps σ env1 A1 := I2.up (Same.refl G1) fun b hb => by
        rw [upd_ne (R4.ne hq4 b (List.mem_append_left _ hb)), upd_ne (n1 b hb)]
      have R6 := R5.start (B := A1) (fun b hb => List.mem_append_left _ hb) R5.left.nd
      have bk : ∀ (G' : Hp) c fs e', exP X W F ps G c fs e' → Same G G' → exP X W ⟨G1, upd (upd H1 p (.dK kv)) q (.dK []), fun a => a ∈ A1⟩ ps G' c fs e' := fun G' c fs e' h s => exP_back (F' := F) R5 (h.up s)
      have P3 := bindD_split (ex' := exP X W ⟨G1, upd (upd H1 p (.dK kv)) q (.dK []), fun a => a ∈ A1⟩ ps G1) (fun c fs e' h => bk G1 c fs e' h s1) P1
      refine hk.seqD I4 R6 P3 fun y env2 v2 G2 H2 A2 s2 I5 i2 R7 P4 => ?_
      have P4 : Rs.post _ (okE X F ps σ G Q) (exP X W F ps G) := P4
      have P5 := bindD_split (ex' := exP X W ⟨G1, upd (upd H1 p (.dK kv)) q (.dK []), fun a => a ∈ A1⟩ ps G2) (fun c fs e' h => bk G2 c fs e' h (s1.trans s2)) P4
      refine hv.seqD I5 R7 P5 fun z env3 v3 G3 H3 A3 s3 I6 i3 R9 P6 => ?_
      have P6 : Rs.post _ (okE X F ps σ G Q) (exP X W F ps G) := P6
      cases hy : keyD y with
      | none => rw [hy] at P6; exact P6.elim
      | some k =>
        rw [hy] at P6
        have P6 : okE X F ps σ G Q (.dict (putKs ks k) (putDs ks ds k z)) env3 := P6
        obtain ⟨r13, s13, k13⟩ := Rel.back (B := A1) (A := [p, q]) R5 R9
        have hp3 : H3 p = some (.dK kv) := by rw [k13 p List.mem_cons_self, upd_ne (Ne.symm hqp)]; exact upd_same
        have hq3 : H3 q = some (.dK []) := by rw [k13 q (List.mem_cons_of_mem _ List.mem_cons_self)]; exact upd_same
        refine ⟨k, keyD_vw (i2.vw R7.gh) hy, hp3, hq3, ?_⟩
        have R14 : Rel F G3 (upd (upd H3 q (.dK [(k, v3)])) p (.dK (putK kv k v3))) (A3 ++ [p, q]) := (r13.put (a := q) (List.mem_append_right _ (List.mem_cons_of_mem _ List.mem_cons_self))).put (List.mem_append_right _ List.mem_cons_self)
        have m3 : ∀ b ∈ A3, b ≠ p ∧ b ≠ q := fun b hb => ⟨fun e => r13.dj p List.mem_cons_self (e ▸ hb), fun e => r13.dj q (List.mem_cons_of_mem _ List.mem_cons_self) (e ▸ hb)⟩
        refine P6 (.ref p) G3 _ A3 [p] ((s1.trans s2).trans s3) (I6.up (Same.refl G3) fun b hb => by rw [upd_ne (m3 b hb).1, upd_ne (m3 b hb).2]) (.dict upd_same (by rw [putK_keys, hkk]) (by rw [← hkk]; exact putK_vals i3 (r.up (s2.trans s3)))) ?_
        have nd := R14.nd
        refine R14.sub (fun b hb => ?_) ?_
        · rcases List.mem_append.mp hb with h | h
          · exact List.mem_append_right _ (by rw [List.mem_singleton.mp h]; exact List.mem_cons_self)
          · exact List.mem_append_left _ h
        · obtain ⟨a1, a2, a3⟩ := List.nodup_append.mp nd
          exact List.nodup_append.mpr ⟨by simp, a1, fun x hx y hy e => a3 y hy x (by rw [List.mem_singleton.mp hx]; exact List.mem_cons_self) e.symm⟩
    · rw [if_neg hl] at P1; exact P1.elim
  | _ => exact P1.elim
end
end Dn

/-! ==, != by an own __eq__; len of an own class -/
namespace Dn
open PySem PySem.Spec PyProof.Rows L2
def neF (C : Str) (K : PySem.W.Frag) : Bool := He.eqO (PySem.W.findIn K (.ref (He.ga K C)) "__ne__") (some (some (.builtin "object.__ne__"))) && decide (PySem.W.subIn K (.ref (He.ga K C)) (.type "object") = some true)
structure NeOf (K : PySem.W.Frag) (C : Str) : Prop where
  at_ : PySem.W.findIn K (.ref (He.ga K C)) "__ne__" = some (some (.builtin "object.__ne__"))
  sub : PySem.W.subIn K (.ref (He.ga K C)) (.type "object") = some true
theorem neF_ok {K : PySem.W.Frag} {C : Str} (h : neF C K = true) : NeOf K C := let ⟨a, b⟩ := He.ba h; ⟨He.eqO_ok a, of_decide_eq_true b⟩
section
variable {M : Model} {A : Around} {E : Value → Shared → Prop} {s : Shared} {K : PySem.W.Frag} {x C : Addr} {ox : Obj} {od : Option Obj} {name : Str} {id : String} {args : List Value}
theorem ifBound_B {Q : Option Value → Shared → Prop} (X : K.In s.heap) (I : PySem.W.InstAt s.heap x ox C od) (hs : PySem.W.findIn K (.ref C) name = some (some (.builtin id))) (S : PySem.Slot "object" name id)
    (h : wpAny M A (call (.builtin id) (.ref x :: args)) (fun v => Q (some v)) E s) : wpAny M A (callSpecialIfBound? (.ref x) name args) Q E s := by
  simp only [callSpecialIfBound?, bindSpecialIfBound?]
  refine wpAny_holding (wpAny_bind (wpAny_bind (wpAny_bind (I.type.here ((PySem.W.looks_findIn X hs).here ?_)))))
  simp only [S.bind]
  refine wpAny_bind (wpAny_askSetting (wpAny_ite ?_))
  have fin : wpAny M A (call (.builtin id) ([.ref x] ++ args) >>= fun v => pure (some v)) Q E s := wpAny_bind (wpAny_mono h (fun v s' h' => wpAny_pure h') fun _ _ h' => h')
  split
  · exact wpAny_bind (wpAny_pure (wpAny_pure fin))
  · exact wpAny_tryCatch (wpAny_bind (wpAny_pure (wpAny_pure fin)))
theorem special_fn {f : Addr} {Q : Option Value → Shared → Prop} (X : K.In s.heap) (I : PySem.W.InstAt s.heap x ox C od) (hs : PySem.W.findIn K (.ref C) name = some (some (.ref f))) (hf : PySem.W.isFn K (.ref f) = true)
    (h : wpAny M A (call (.ref f) (.ref x :: args)) (fun v => Q (some v)) E s) : wpAny M A (callSpecial? (.ref x) name args) Q E s := by
  unfold callSpecial?
  refine wpAny_bind (wpAny_bind (I.type.here ((PySem.W.looks_findIn X hs).here ?_)))
  dsimp only
  refine wpAny_holding (wpAny_bind ((PySem.W.bind_fn X _ (beq_iff_eq.mp hf)).here ?_))
  exact wpAny_bind (wpAny_mono h (fun v s' h' => wpAny_pure h') fun _ _ h' => h')
end
section
variable {X : Cx} {W : WX} {F : Fm} {ps : List V} {σ : L2.St} {G H : Hp} {A : List Addr} {env : Ev} {k : Nat} {qs : List Str} {Fn' : Fn} {C : Str} {e e2 : Expr} {d d2 : DE} {pos : Pos}
theorem run_in1 {f : Addr} {sp : Sp} {vs : List V} {Q : VK} {pins : List (Addr × Obj)} {s : Shared} {us : List Value} {E' : Value → Shared → Prop} (D : Callee X.prog X.w X.K X.mg X.base f k qs [] sp) (hr : Room (k + 1) X.A) (hg : X.A.guards = some [])
    (h : sp vs H Q (fun _ _ _ => False)) (I : Inv X pins σ H s) (r : Vals vs us) : wpAny (model X.prog X.w) X.A.in1 (call (.ref f) us) (EP X pins σ Q) E' s := by
  obtain ⟨fd, ds, Fo, hb, hd, _⟩ := D.ex
  cases hd
  have hl : us.length = qs.length := r.length.symm.trans (Fo.len _ _ _ _ h)
  refine wpAny_call (codeAny_mono (Fo.run X.A.in1 X.stack s H ⟨us, []⟩ us vs Q _ hr.in1 hg I.env0.in1 (by have := hb s us I.kIn (by rw [List.append_nil]; exact hl); rw [List.append_nil] at this; exact this) r h) fun r s' hq => ?_)
  cases r with
  | error er => obtain ⟨_, _, _, _, _, _, _, _, _, _, _, _, hE⟩ := hq; exact hE.elim
  | ok fl =>
    cases fl with
    | ret u => exact I.after hq
    | next => exact False.elim hq
    | brk => exact False.elim hq
    | cont => exact False.elim hq
def dEqO (C : Str) (Fn' : Fn) (neg : Bool) (d1 d2 : DE) : DE := fun env => (d1 env).bindD fun x env => (d2 env).bindD fun y env => if (instC C x && instC C y) = true then (callQ Fn' 2 [] [x, y] env).bind (tB' neg) else .stuck
theorem op_eqO {neg : Bool} {a a2 : Addr} {y z : D} {Q : VK} (hr : Room (k + 1) X.A) (hu : X.A.units + 64 < cLine) (hgd : X.A.guards = some []) (D' : DefM X.prog X.w X.K X.mg X.base C "__eq__" k qs [] (spF X.K [false, false] Fn')) (N : NeOf X.K C) (hz : instC C y = true) (hz2 : instC C z = true)
    (I : EvIs X.K G H ps σ env A) (R : Rel F G H A) (i1 : Is X.K G (.ref a) y) (i2 : Is X.K G (.ref a2) z) {b : Bool} (e : callP Fn' 2 [] [y, z] env = .ok (.d (.bool b)) env) (kk : OkO X F G H A Q (.d (.bool (xor neg b)))) : RunO X (compareOp (if neg = true then .NotEq else .Eq)) (.ref a) (.ref a2) H Q := by
  intro pins s τ v u J rx ry
  cases rx
  cases ry
  obtain ⟨_, dx, fs, ea, ha⟩ := instC_is i1 hz
  cases ea
  obtain ⟨_, dx2, fs2, ea2, ha2⟩ := instC_is i2 hz2
  cases ea2
  obtain ⟨m1, O1, _⟩ := ins_get J.hok (R.gh _ _ ha)
  obtain ⟨od, J1, _⟩ := O1.look
  obtain ⟨m2, O2, _⟩ := ins_get J.hok (R.gh _ _ ha2)
  obtain ⟨od2, J2, _⟩ := O2.look
  have sp1 : spF X.K [false, false] Fn' [.ref a, .ref a2] H (fun v H' => ∃ c, v = .bl c ∧ Q (.bl (xor neg c)) H') (fun _ _ _ => False) := by
    refine sp_ok (n := 2) (vs := [.ref a, .ref a2]) I R (.cons i1 (.cons i2 .nil)) e fun v' G' H' B s2 k2 t' r2 => ?_
    cases t' with
    | d t' =>
      cases t'
      exact ⟨b, rfl, kk _ G' H' [] s2 k2 (.d (.bl _)) r2⟩
  have rr : Vals [V.ref a, V.ref a2] [Value.ref a, Value.ref a2] := .cons rfl (.cons rfl .nil)
  cases neg with
  | false =>
    obtain ⟨m, hF⟩ := J.fr
    show wpAny _ _ (richCompare .Eq (.ref a) (.ref a2)) _ _ s
    refine PySem.W.cmp_K (op := .Eq) (tb := .ref (He.ga X.K C)) (by omega) hF J.ok.mod.kin J1 J2.type (by simp [PySem.W.notFirst]) D'.mt.at_ D'.mt.fn ?_
    refine thn (run_cs (W := fun _ _ _ _ => False) (σ := τ) D'.c (hr.mono (Nat.le_succ _)) hgd takesF sp1 pins s [.ref a, .ref a2] J rr) fun r s' hq => ?_
    obtain ⟨v', H', I2, rv, c, rfl, q2⟩ := hq
    cases (show r = Value.bool c from rv)
    exact ⟨.bl c, H', I2, rfl, by rw [Bool.false_xor] at q2; exact q2⟩
  | true =>
    show wpAny _ _ (richCompare .NotEq (.ref a) (.ref a2)) _ _ s
    unfold richCompare
    simp only [oneThing_ref]
    refine wpAny_holding (wpAny_bind (wpAny_cRoomFor (by omega) ?_))
    refine wpAny_bind (J1.type.here (wpAny_bind (J2.type.here ?_)))
    rw [show (Value.ref (He.ga X.K C) != Value.ref (He.ga X.K C)) = false from by simp]
    simp only [Bool.false_eq_true, if_false]
    refine wpAny_bind (wpAny_pure ?_)
    simp only [Bool.false_eq_true, if_false]
    refine wpAny_bind ?_
    simp only [tryCompare]
    have inst : PySem.W.Looks (model X.prog X.w) s.heap (isInstance (.ref a) (.type "object")) true := J1.type.andThen (PySem.W.looks_subIn J.kIn N.sub)
    refine wpAny_bind (ifBound_B J.kIn J1 N.at_ PySem.F.cmp_object.ne (wpAny_call (codeAny_call_builtin PySem.F.cmp_object.ne.plain PySem.F.cmpEntry_ne (PySem.W.check_slot PySem.F.cmpKind_ne PySem.F.cmpSplit_ne inst (PySem.F.cmpArgs_ne _ _) ?_))))
    unfold Builtin.«object.__ne__»
    refine wpAny_bind (m := slotArgs "__ne__" 1 _) (wpAny_pure ?_)
    dsimp only
    refine wpAny_bind (wpAny_cRoomFor (by show X.A.units + 1 < _; omega) ?_)
    refine wpAny_bind (m := callSpecialIfBound? (.ref a) (Str.ofString "__eq__") [.ref a2]) (PySem.W.ifBound_K J.kIn J1 D'.mt.at_ D'.mt.fn (thn (run_in1 D'.c hr hgd sp1 J rr) fun r s' hq => ?_))
    obtain ⟨v', H', I2, rv, c, rfl, q2⟩ := hq
    cases (show r = Value.bool c from rv)
    dsimp only
    refine wpAny_bind (wpAny_truthy_bool ?_)
    exact wpAny_pure (wpAny_pure (wpAny_pure ⟨.bl (!c), H', I2, rfl, by rw [Bool.true_xor] at q2; exact q2⟩))
theorem eq_own {neg : Bool} {op : CmpOp} (hop : op = if neg = true then .NotEq else .Eq) (hr : Room (k + 1) X.A) (hu : X.A.units + 64 < cLine) (hgd : X.A.guards = some []) (D' : DefM X.prog X.w X.K X.mg X.base C "__eq__" k qs [] (spF X.K [false, false] Fn')) (N : NeOf X.K C) (hm : behindInMarks op e2 = false)
    (h1 : SE X W e d) (h2 : SE X W e2 d2) : SE X W (.Compare e [op] [e2] pos) (dEqO C Fn' neg d d2) := fun F ps σ G H A Q env I R P =>
  PE.go (pe_cmpR opr_run pe_run pe_run hm) (h1.seqD I R P fun x env1 v G1 H1 A1 s1 I1 i1 R1 P1 => h2.seqD I1 R1 P1 fun y env2 u G2 H2 A2 s2 I2 i2 R2 P2 => by
    by_cases hz : (instC C x && instC C y) = true
    · rw [if_pos hz] at P2
      obtain ⟨z1, z2⟩ := Bool.and_eq_true_iff.mp hz
      obtain ⟨t, et, P3⟩ := callQ_bind P2
      cases t with
      | d z =>
        cases z with
        | bool b =>
          obtain ⟨a, dx, fs, rfl, ha⟩ := instC_is i1 z1
          obtain ⟨a2, dx2, fs2, rfl, ha2⟩ := instC_is i2 z2
          rw [hop]
          exact op_eqO hr hu hgd D' N z1 z2 I2 R2 (i1.up s2) i2 et (okO_of I2 R2 (s1.trans s2) P3)
        | _ => exact P3.elim
      | _ => exact P3.elim
    · rw [if_neg hz] at P2; exact P2.elim)
theorem eq_ownT {neg : Bool} {op : CmpOp} (hop : op = if neg = true then .NotEq else .Eq) (hr : Room (k + 1) X.A) (hu : X.A.units + 64 < cLine) (hgd : X.A.guards = some []) (D' : DefM X.prog X.w X.K X.mg X.base C "__eq__" k qs [] (spF X.K [false, false] Fn')) (N : NeOf X.K C) (hm : behindInMarks op e2 = false)
    (h1 : SE X W e d) (h2 : SE X W e2 d2) : ST X W (.Compare e [op] [e2] pos) (aB (dEqO C Fn' neg d d2)) := fun F ps σ G H A Q env I R P =>
  PT.go (pt_cmpR opr_run pe_run pe_run hm) (h1.seqD (f := fun x env => (d2 env).bindD fun y env => (if (instC C x && instC C y) = true then (callQ Fn' 2 [] [x, y] env).bind (tB' neg) else .stuck).bind tB) (ok := okT X F ps σ G Q) I R (by
      unfold aB dEqO at P
      rw [bindD_bind] at P
      have e : (fun x env => ((d2 env).bindD fun y env => if (instC C x && instC C y) = true then (callQ Fn' 2 [] [x, y] env).bind (tB' neg) else .stuck).bind tB) = (fun x env => (d2 env).bindD fun y env => (if (instC C x && instC C y) = true then (callQ Fn' 2 [] [x, y] env).bind (tB' neg) else .stuck).bind tB) := by
        funext x env; rw [bindD_bind]
      rw [← e]; exact P) fun x env1 v G1 H1 A1 s1 I1 i1 R1 P1 => h2.seqD I1 R1 P1 fun y env2 u G2 H2 A2 s2 I2 i2 R2 P2 => by
    by_cases hz : (instC C x && instC C y) = true
    · rw [if_pos hz, bind_bind] at P2
      obtain ⟨z1, z2⟩ := Bool.and_eq_true_iff.mp hz
      obtain ⟨t, et, P3⟩ := callQ_bind P2
      cases t with
      | d z =>
        cases z with
        | bool b =>
          obtain ⟨a, dx, fs, rfl, ha⟩ := instC_is i1 z1
          obtain ⟨a2, dx2, fs2, rfl, ha2⟩ := instC_is i2 z2
          rw [hop]
          have P3 : okT X F ps σ G Q (xor neg b) env2 := P3
          refine op_eqO hr hu hgd D' N z1 z2 I2 R2 (i1.up s2) i2 et fun v' G' H' B s' k' t' r' => ?_
          cases t' with
          | d t' => cases t'; exact ⟨_, rfl, P3 G' H' A2 ((s1.trans s2).trans s') (I2.up s' k') r'⟩
        | _ => exact P3.elim
      | _ => exact P3.elim
    · rw [if_neg hz] at P2; exact P2.elim)
/-! ### len(o) -/
def tN : T → Ev → Rs T := fun t env => match t with
  | .d (.int n) => if 0 ≤ n ∧ n < 1000000 then .ok (.d (.int n)) env else .stuck
  | _ => .stuck
def dLenO (C : Str) (Fn' : Fn) (d1 : DE) : DE := fun env => (d1 env).bindD fun x env => if instC C x = true then (callQ Fn' 1 [] [x] env).bind tN else .stuck
theorem SE.lenO {p : Pos} (hr : Room (k + 1) X.A) (hgd : X.A.guards = some []) (D' : DefM X.prog X.w X.K X.mg X.base C "__len__" k qs [] (spF X.K [false] Fn')) (hm : X.mg "len" = none) (hg : Gl X "len") (he : starEach [e] X.env = (false, eval e X.env) :: starEach [] X.env) (hpl : (backTo pos (starEach [] X.env)).any (·.1) = false)
    (h1 : SE X W e d) : SE X W (.Call (.Name "len" p) [e] [] pos) (dLenO C Fn' d) := fun F ps σ G H A Q env I R P =>
  PE.go (pe_callB cr_run hg hm (show bootBuiltins "len" = some (.builtin "len") by decide +kernel) (pa_cons pe_run pa_nil he) (by decide) rfl he hpl) (h1.seqD I R P fun x env1 v G1 H1 A1 s1 I1 i1 R1 P1 => by
    by_cases hz : instC C x = true
    · rw [if_pos hz] at P1
      obtain ⟨t, et, P3⟩ := callQ_bind P1
      unfold tN at P3
      cases t with
      | d z =>
        cases z with
        | int n =>
          by_cases hn : 0 ≤ n ∧ n < 1000000
          · have P3 : Rs.post (if 0 ≤ n ∧ n < 1000000 then Rs.ok (T.d (.int n)) env1 else .stuck) (okE X F ps σ G Q) (exP X W F ps G1) := P3
            rw [if_pos hn] at P3
            have kk : OkO X F G1 H1 A1 Q (.d (.int n)) := okO_of I1 R1 s1 P3
            obtain ⟨a, dx, fs, rfl, ha⟩ := instC_is i1 hz
            intro pins s τ us J rr
            obtain ⟨u, rfl, ru⟩ := vals1 rr
            cases ru
            obtain ⟨m1, O1, _⟩ := ins_get J.hok (R1.gh _ _ ha)
            obtain ⟨od, J1, _⟩ := O1.look
            have sp1 : spF X.K [false] Fn' [.ref a] H1 (fun v H' => v = .int n ∧ Q (.int n) H') (fun _ _ _ => False) := by
              refine sp_ok (n := 1) (vs := [.ref a]) I1 R1 (.cons i1 .nil) et fun v' G' H' B s2 k2 t' r2 => ?_
              cases t' with
              | d t' => cases t'; exact ⟨rfl, kk _ G' H' [] s2 k2 (.d (.int _)) r2⟩
            refine Calls.call_function_entry kind_len plain_len entry_len (args_len1 _) ?_
            unfold Builtin.«len»
            refine wpAny_bind (m := oneArg "len" _) (wpAny_pure ?_)
            refine wpAny_bind (m := callSpecial? (.ref a) (PySem.Str.ofString "__len__")) (special_fn J.kIn J1 D'.mt.at_ D'.mt.fn (thn (run_in1 D'.c hr hgd sp1 J rr) fun r s' hq => ?_))
            obtain ⟨v', H', I2, rv, rfl, q2⟩ := hq
            obtain ⟨t, rfl⟩ := rv
            refine wpAny_bind (wpAny_holding (wpAny_pure ?_))
            refine wpAny_bind (wpAny_letGo ?_)
            show wpAny _ _ (if n < 0 then _ else _) _ _ _
            rw [if_neg (by omega)]
            show wpAny _ _ (if n ≥ 2 ^ 63 then _ else _) _ _ _
            rw [if_neg (by omega)]
            exact wpAny_bind (wpAny_mkInt (wpAny_pure ⟨_, rfl, .int n, H', I2.tok _, ⟨_, rfl⟩, q2⟩))
          · have P3 : Rs.post (if 0 ≤ n ∧ n < 1000000 then Rs.ok (T.d (.int n)) env1 else .stuck) (okE X F ps σ G Q) (exP X W F ps G1) := P3
            rw [if_neg hn] at P3; exact P3.elim
        | _ => exact P3.elim
      | _ => exact P3.elim
    · rw [if_neg hz] at P1; exact P1.elim)
end
end Dn

/-! our own instances read, not frozen -/
namespace Dn
open PySem PySem.Spec PyProof.Rows L2
def instT (C : Str) : T → Bool
  | .inst C' _ _ => decide (C' = C)
  | .d x => instC C x
  | _ => false
theorem instT_is {K : PySem.W.Frag} {G H : Hp} {B : List Addr} {C : Str} {v : V} {y : T} (s : Same G H) (h : TIs K G H v y B) (e : instT C y = true) : ∃ a dx fs, v = .ref a ∧ H a = some (.ins (He.ga K C) dx fs) := by
  cases h with
  | d h =>
    obtain ⟨a, dx, fs, e1, e2⟩ := instC_is h e
    exact ⟨a, dx, fs, e1, s _ _ e2⟩
  | @inst a dx C' fs ns ts A ha hn r =>
    have e1 : C' = C := of_decide_eq_true e
    subst e1
    exact ⟨a, dx, fs, rfl, ha⟩
  | _ => cases e
/-- a getter of our own instance -/
def dPropO (C : Str) (Fn' : Fn) (i : Nat) : DE := fun env => if ((treeS (getS env i)).map (instT C)) = some true then noX (callO [true] Fn' [] [.inr i] env) else .stuck
def dLenOO (C : Str) (Fn' : Fn) (i : Nat) : DE := fun env => if ((treeS (getS env i)).map (instT C)) = some true then (noX (callO [true] Fn' [] [.inr i] env)).bind tN else .stuck
def dIxQ (f1 f2 : Ev → Option D) : DE := fun env => match f1 env, f2 env with
  | some x, some y => ofD (ixD x y) env
  | _, _ => .stuck
def dAppTmp (d1 d2 : DE) : DE := fun env => (d1 env).bind fun t env => match t with
  | .lst ds => (d2 env).bindD fun _ env => if ds.length < 1000000 then .ok (.d .none) env else .stuck
  | _ => .stuck
theorem noX_ok {α : Type} {r : Rs α} {ok : α → Ev → Prop} {ex ex' : XC → Fds → Ev → Prop} (P : (noX r).post ok ex) : r.post ok ex' := by
  cases r with
  | ok a e => exact P
  | exc c fs e => exact P.elim
  | stuck => exact P.elim
section
variable {X : Cx} {W : WX} {C m x : Str} {Fn' : Fn} {i k : Nat} {qs : List Str} {p pos apos cpos : Pos} {e e2 o : Expr} {f1 f2 : Ev → Option D} {d d2 : DE}
theorem SE.propO (hr : Room (k + 1) X.A) (hgd : X.A.guards = some []) (D' : DefP X.prog X.w X.K X.mg X.base C m k qs (spF X.K [true] Fn')) (hab : attributeBase (.Name x p) m X.env (eval (.Name x p) X.env) = eval (.Name x p) X.env) (n : Nm X.N X.env.scope i x) : SE X W (.Attribute (.Name x p) m pos) (dPropO C Fn' i) := fun F ps σ G H A Q env I R P => .of fun pins s J => by
  unfold dPropO at P
  by_cases hz : ((treeS (getS env i)).map (instT C)) = some true
  · rw [if_pos hz] at P
    obtain ⟨t0, q0, q1⟩ := Option.map_eq_some_iff.mp hz
    obtain ⟨v, B, C0, hv1, ht1, _, _⟩ := I.tree q0
    obtain ⟨a, dx, fs, rfl, ha1⟩ := instT_is R.gh ht1 q1
    let K1 : VK := fun v H1 => ∀ (u : Value) (s1 : Shared), Inv X pins σ H1 s1 → RelV v u → wpAny (model X.prog X.w) X.A (getAttr u m true) (EP X pins σ Q) X.xe s1
    have main : RunE X (.Name x p) σ H K1 := PE.go (pe_var n.1 (vis_of n.2) n.3 n.4) ⟨_, hv1, by
      intro u sh J1 ru
      cases ru
      exact run_prop J1 ha1 D' hr hgd (sp_own (W := fun _ _ _ _ => False) (dvs := []) (as := [.inr i]) (vs := [.ref a]) I R ⟨hv1, trivial⟩ (noX_ok P))⟩
    exact attr_of hab (thn (main.r pins s J) fun u s1 ⟨v, H1, J1, r, q⟩ => q u s1 J1 r)
  · rw [if_neg hz] at P; exact P.elim
theorem SE.lenOO (hr : Room (k + 1) X.A) (hgd : X.A.guards = some []) (D' : DefM X.prog X.w X.K X.mg X.base C "__len__" k qs [] (spF X.K [true] Fn')) (hm : X.mg "len" = none) (hg : Gl X "len") (he : starEach [.Name x p] X.env = (false, eval (.Name x p) X.env) :: starEach [] X.env) (hpl : (backTo cpos (starEach [] X.env)).any (·.1) = false) (n : Nm X.N X.env.scope i x) : SE X W (.Call (.Name "len" pos) [.Name x p] [] cpos) (dLenOO C Fn' i) := fun F ps σ G H A Q env I R P =>
  PE.go (pe_callB cr_run hg hm (show bootBuiltins "len" = some (.builtin "len") by decide +kernel) (pa_cons pe_run pa_nil he) (by decide) rfl he hpl) (by
    unfold dLenOO at P
    by_cases hz : ((treeS (getS env i)).map (instT C)) = some true
    · rw [if_pos hz] at P
      obtain ⟨t0, q0, q1⟩ := Option.map_eq_some_iff.mp hz
      obtain ⟨v, B, C0, hv1, ht1, _, _⟩ := I.tree q0
      obtain ⟨a, dx, fs, rfl, ha1⟩ := instT_is R.gh ht1 q1
      refine PE.go (pe_var n.1 (vis_of n.2) n.3 n.4) ⟨_, hv1, ?_⟩
      intro pins s τ us J rr
      obtain ⟨u, rfl, ru⟩ := vals1 rr
      cases ru
      obtain ⟨m1, O1, _⟩ := ins_get J.hok ha1
      obtain ⟨od, J1, _⟩ := O1.look
      have P2 : (Dn.callO [true] Fn' [] [.inr i] env).post (okE X F ps σ G fun v H' => ∃ n : Int, v = .int n ∧ 0 ≤ n ∧ n < 1000000 ∧ Q (.int n) H') (exP X (fun _ _ _ _ => False) F ps G) := by
        cases q : Dn.callO [true] Fn' [] [.inr i] env with
        | stuck => rw [q] at P; exact P.elim
        | exc c fs e => rw [q] at P; exact P.elim
        | ok t e1 =>
          rw [q] at P
          have P : Rs.post (tN t e1) (okE X F ps σ G Q) (exP X W F ps G) := P
          unfold tN at P
          intro v G' H' A' B' s I' i' R'
          cases t with
          | d z =>
            cases z with
            | int n =>
              by_cases hn : 0 ≤ n ∧ n < 1000000
              · have P : Rs.post (if 0 ≤ n ∧ n < 1000000 then Rs.ok (T.d (.int n)) e1 else .stuck) (okE X F ps σ G Q) (exP X W F ps G) := P
                rw [if_pos hn] at P
                cases i' with
                | d i' =>
                  cases i'
                  exact ⟨n, rfl, hn.1, hn.2, P _ G' H' A' [] s I' (.d (.int n)) R'⟩
              · have P : Rs.post (if 0 ≤ n ∧ n < 1000000 then Rs.ok (T.d (.int n)) e1 else .stuck) (okE X F ps σ G Q) (exP X W F ps G) := P
                rw [if_neg hn] at P; exact P.elim
            | _ => exact P.elim
          | _ => exact P.elim
      have sp1 := sp_own (W := fun _ _ _ _ => False) (dvs := []) (as := [.inr i]) (vs := [.ref a]) I R ⟨hv1, trivial⟩ P2
      refine Calls.call_function_entry kind_len plain_len entry_len (args_len1 _) ?_
      unfold Builtin.«len»
      refine wpAny_bind (m := oneArg "len" _) (wpAny_pure ?_)
      refine wpAny_bind (m := callSpecial? (.ref a) (PySem.Str.ofString "__len__")) (special_fn J.kIn J1 D'.mt.at_ D'.mt.fn (thn (run_in1 D'.c hr hgd sp1 J rr) fun r s' hq => ?_))
      obtain ⟨v', H', I2, rv, n, rfl, n1, n2, q2⟩ := hq
      obtain ⟨t, rfl⟩ := rv
      refine wpAny_bind (wpAny_holding (wpAny_pure ?_))
      refine wpAny_bind (wpAny_letGo ?_)
      show wpAny _ _ (if n < 0 then _ else _) _ _ _
      rw [if_neg (by omega)]
      show wpAny _ _ (if n ≥ 2 ^ 63 then _ else _) _ _ _
      rw [if_neg (by omega)]
      exact wpAny_bind (wpAny_mkInt (wpAny_pure ⟨_, rfl, .int n, H', I2.tok _, ⟨_, rfl⟩, q2⟩))
    · rw [if_neg hz] at P; exact P.elim)
theorem SQ.neg {n : Int} {k : Nat} : SQ X (.UnaryOp .USub (.Constant (.int n) k p) pos) (fun _ => some (.int (-n))) := fun F ps σ G H A Q env y I R q k => by
  cases q; exact PE.go (pe_un un_neg pe_int) ⟨n, rfl, k _ ((Is.int (-n)).vw R.gh)⟩
theorem SE.ixQ (hu : X.A.units + 64 < cLine) (hs : PlainIx e2) (h1 : SQ X e f1) (h2 : SQ X e2 f2) : SE X W (.Subscript e e2 pos) (dIxQ f1 f2) := fun F ps σ G H A Q env I R P => by
  refine PE.go (pe_ix ixr_run pe_run pe_run hs) ?_
  unfold dIxQ at P
  cases q1 : f1 env with
  | none => rw [q1] at P; exact P.elim
  | some x =>
    cases q2 : f2 env with
    | none => rw [q1, q2] at P; exact P.elim
    | some y =>
      rw [q1, q2] at P
      dsimp only at P
      cases q : ixD x y with
      | none => rw [q] at P; exact P.elim
      | some r =>
        rw [q] at P
        exact h1 F ps σ G H A _ env x I R q1 fun v hv => h2 F ps σ G H A _ env y I R q2 fun u hy => ixD_run hu R hv hy q fun z iz => P z G H A [] (Same.refl G) I (.d iz) R
theorem SE.appTmp (hb : attributeBase e "append" X.env (eval e X.env) = eval e X.env) (hfew : Few X cpos e2 []) (hl : (apos.endLine == cpos.line) = true) (hs : starEach [e2] X.env = (false, eval e2 X.env) :: starEach [] X.env) (hpl : (backTo cpos (starEach [] X.env)).any (·.1) = false)
    (h1 : SE X W e d) (h2 : SE X W e2 d2) : SE X W (.Call (.Attribute e "append" apos) [e2] [] cpos) (dAppTmp d d2) := fun F ps σ G H A Q env I R P => by
  refine PE.go (pe_bm PySem.F.plainAttrs_list PySem.F.slot_list_append PySem.F.type_list_append mt_append pe_run (pa_cons pe_run pa_nil hs) hb hfew hl hs hpl) ?_
  refine h1.seq I R P fun t env1 v G1 H1 A1 B s1 I1 i1 R1 P1 => ?_
  cases t with
  | lst ds =>
    have P1 : Rs.post ((d2 env1).bindD fun _ env => if ds.length < 1000000 then Rs.ok (T.d .none) env else .stuck) (okE X F ps σ G Q) (exP X W F ps G1) := P1
    cases i1 with
    | @lst a xs _ ha r =>
      have R2 : Rel F G1 H1 (A1 ++ [a]) := R1.perm List.perm_append_comm
      have R3 := R2.start (B := A1) (fun b hb => List.mem_append_left _ hb) R2.left.nd
      have P2 := bindD_split (ex' := exP X W ⟨G1, H1, fun b => b ∈ A1⟩ ps G1) (fun c fs e' h => exP_back (F' := F) R2 h) P1
      refine ⟨ty_lst (.lst ha r), h2.seqD I1 R3 P2 fun y env2 u G2 H2 A2 s2 I2 i2 R4 P3 => ?_⟩
      have P3 : Rs.post (if ds.length < 1000000 then Rs.ok (T.d .none) env2 else .stuck) (okE X F ps σ G Q) (exP X W F ps G1) := P3
      by_cases hz : ds.length < 1000000
      · rw [if_pos hz] at P3
        obtain ⟨r5, s5, k5⟩ := Rel.back (B := A1) (A := [a]) R2 R4
        have ha2 : H2 a = some (.lst xs) := by rw [k5 a List.mem_cons_self]; exact ha
        have na : ∀ b ∈ A2, b ≠ a := fun b hb e => r5.dj a List.mem_cons_self (e ▸ hb)
        refine ⟨a, xs, u, rfl, rfl, ha2, by rw [r.length]; exact Nat.lt_trans hz sqLine, ?_⟩
        have r6 : Rel F G2 (upd H2 a (.lst (xs ++ [u]))) (A2 ++ [a]) := r5.put (List.mem_append_right _ List.mem_cons_self)
        exact P3 .non G2 _ A2 [] (s1.trans s2) (I2.up (Same.refl G2) fun b hb => upd_ne (na b hb)) (.d .non) r6.left
      · rw [if_neg hz] at P3; exact P3.elim
  | _ => exact P1.elim
end
end Dn

/-! isinstance of an own class; == of equal data with dicts -/
namespace Dn
open PySem PySem.Spec PyProof.Rows L2
def isF (C : Str) (K : PySem.W.Frag) : Bool := He.eqO (PySem.W.findIn K (.ref (He.ga K C)) "__class__") (some (some (.builtin "object.__class__"))) && (He.eqO (PySem.W.specialIn K (.builtin "object.__class__") "__get__") (some (some (.builtin "getset_descriptor.__get__"))) &&
  (decide (PySem.W.takesIn K (.builtin "object.__class__") = some true) && (decide (PySem.W.mroIn K (He.ga K C) (.type "object") = some true) && decide (PySem.W.kitOne K (.ref (He.ga K C)) (.ref (He.ga K C)) = some true))))
structure IsOf (K : PySem.W.Frag) (C : Str) : Prop where
  ha : PySem.W.findIn K (.ref (He.ga K C)) "__class__" = some (some (.builtin "object.__class__"))
  hn : PySem.W.specialIn K (.builtin "object.__class__") "__get__" = some (some (.builtin "getset_descriptor.__get__"))
  ht : PySem.W.takesIn K (.builtin "object.__class__") = some true
  hm : PySem.W.mroIn K (He.ga K C) (.type "object") = some true
  k : PySem.W.kitOne K (.ref (He.ga K C)) (.ref (He.ga K C)) = some true
theorem isF_ok {K : PySem.W.Frag} {C : Str} (h : isF C K = true) : IsOf K C := by
  obtain ⟨h1, h⟩ := He.ba h
  obtain ⟨h2, h⟩ := He.ba h
  obtain ⟨h3, h⟩ := He.ba h
  obtain ⟨h4, h5⟩ := He.ba h
  exact ⟨He.eqO_ok h1, He.eqO_ok h2, of_decide_eq_true h3, of_decide_eq_true h4, of_decide_eq_true h5⟩
def dIsO (C : Str) (d : Ev → Rs D) : DE := fun env => (d env).bind fun x env => if instC C x = true then .ok (.d (.bool true)) env else .stuck
section
variable {X : Cx} {W : WX} {C : Str} {e : Expr} {p p2 pos : Pos} {d : Ev → Rs D}
theorem SE.isaO (N : IsOf X.K C) (cl : Cls X.K (He.ga X.K C)) (hm : X.mg "isinstance" = none) (hC : X.mg C = some (.ref (He.ga X.K C))) (hg : Gl X "isinstance") (hg2 : Gl X C) (hd2 : (C == ("__debug__" : Str)) = false) (he : starEach [e, .Name C p2] X.env = (false, eval e X.env) :: starEach [.Name C p2] X.env) (he2 : starEach [.Name C p2] X.env = (false, eval (.Name C p2) X.env) :: starEach [] X.env) (hpl : (backTo pos (starEach [.Name C p2] X.env)).any (·.1) = false)
    (h : SV X W e d) : SE X W (.Call (.Name "isinstance" p) [e, .Name C p2] [] pos) (dIsO C d) := fun F ps σ G H A Q env I R P =>
  PE.go (pe_callB call_isi hg hm boot_isinstance (pa_cons pe_run (pa_cons (pe_glob (v := .ref (He.ga X.K C)) hg2 hC rfl hd2) pa_nil he2) he) (by decide) (by decide) he hpl) (h.seq I R P fun x env1 v G1 H1 A1 s1 I1 i1 R1 P1 => by
    by_cases hz : instC C x = true
    · rw [if_pos hz] at P1
      cases x with
      | inst C' ns ds =>
        have e1 : C' = C := of_decide_eq_true hz
        subst e1
        obtain ⟨a, dx, fs, rfl, ha, _⟩ := i1.inst _ _ _ rfl
        exact ⟨_, _, _, _, true, rfl, .own _, .base (.ins ha cl N.ha N.hn N.ht N.hm), N.k, (okO_of I1 R1 s1 P1).data (.bl true) R1⟩
      | _ => cases hz
    · rw [if_neg hz] at P1; exact P1.elim)
end
/-! ### == of equal data -/
mutual
def eqDep : D → Option Nat
  | .none => some 0
  | .bool _ => some 0
  | .int _ => some 0
  | .str _ => some 0
  | .list ds => (eqDepL ds).map (· + 1)
  | .tup ds => (eqDepL ds).map (· + 1)
  | .dict _ ds => (eqDepL ds).map (· + 1)
  | _ => none
def eqDepL : List D → Option Nat
  | [] => some 0
  | d :: ds => match eqDep d, eqDepL ds with
    | some a, some b => some (max a b)
    | _, _ => none
end
theorem eqDepL_mem : ∀ {ds : List D} {m : Nat}, eqDepL ds = some m → ∀ d ∈ ds, ∃ k, eqDep d = some k ∧ k ≤ m
  | [], _, _, d, h => by cases h
  | d0 :: ds, m, e, d, h => by
    unfold eqDepL at e
    cases q1 : eqDep d0 with
    | none => rw [q1] at e; cases e
    | some a =>
      cases q2 : eqDepL ds with
      | none => rw [q1, q2] at e; cases e
      | some b =>
        rw [q1, q2] at e
        cases e
        rcases List.mem_cons.mp h with rfl | h
        · exact ⟨a, q1, Nat.le_max_left _ _⟩
        · obtain ⟨k, h1, h2⟩ := eqDepL_mem q2 d h
          exact ⟨k, h1, Nat.le_trans h2 (Nat.le_max_right _ _)⟩
def SamD (K : PySem.W.Frag) (G : Hp) (n : Nat) (x y : V) : Prop := ∃ d m, eqDep d = some m ∧ m ≤ n ∧ Is K G x d ∧ Is K G y d
section
variable {X : Cx} {pins : List (Addr × Obj)} {σ : L2.St} {G H : Hp} {s : Shared}
theorem lookK_nd {K : Type} [DecidableEq K] : ∀ {ks : List K} {ds : List D} {i : Nat} {k : K} {d : D}, ks.Nodup → ks[i]? = some k → ds[i]? = some d → lookK ks ds k = some d
  | [], _, _, _, _, _, h, _ => by simp at h
  | _ :: _, [], _, _, _, _, _, h => by simp at h
  | k0 :: ks, d0 :: ds, 0, k, d, nd, h1, h2 => by
    simp at h1 h2; subst h1 h2
    unfold lookK; rw [if_pos rfl]
  | k0 :: ks, d0 :: ds, i + 1, k, d, nd, h1, h2 => by
    obtain ⟨n1, n2⟩ := List.nodup_cons.mp nd
    simp at h1 h2
    have : k0 ≠ k := fun e => n1 (e ▸ List.mem_of_getElem? h1)
    unfold lookK; rw [if_neg this]
    exact lookK_nd n2 h1 h2
theorem items_same {A : Around} {n : Nat} (ih : ∀ x y v u, SamD X.K G n x y → RelV x v → RelV y u → SeqAt.EqP X.prog X.w A s v u true) {ds : List D} {m : Nat} (hd : eqDepL ds = some m) (hm : m ≤ n) {xs ys : List V} (r1 : IsL X.K G xs ds) (r2 : IsL X.K G ys ds) {its its2 : List Value} (v1 : Vals xs its) (v2 : Vals ys its2)
    (i : Nat) (h1 : i < its.toArray.size) (h2 : i < its2.toArray.size) : SeqAt.EqP X.prog X.w A s its.toArray[i] its2.toArray[i] true := by
  have k1 : i < xs.length := by rw [v1.length]; simpa using h1
  have k2 : i < ys.length := by rw [v2.length]; simpa using h2
  obtain ⟨u, hu, ru⟩ := v1.get (List.getElem?_eq_getElem k1)
  obtain ⟨v, hv, rv⟩ := v2.get (List.getElem?_eq_getElem k2)
  obtain ⟨d, hd1, i1⟩ := r1.get (List.getElem?_eq_getElem k1)
  obtain ⟨d', hd2, i2⟩ := r2.get (List.getElem?_eq_getElem k2)
  rw [hd1] at hd2
  cases hd2
  obtain ⟨k, e1, e2⟩ := eqDepL_mem hd d (List.mem_of_getElem? hd1)
  have g1 : its[i]? = some its.toArray[i] := by
    have h1' : i < its.length := by simpa using h1
    rw [List.getElem?_eq_getElem h1'] <;> simp
  have g2 : its2[i]? = some its2.toArray[i] := by
    have h2' : i < its2.length := by simpa using h2
    rw [List.getElem?_eq_getElem h2'] <;> simp
  rw [g1] at hu
  rw [g2] at hv
  rw [Option.some.inj hu, Option.some.inj hv]
  exact ih _ _ _ _ ⟨d, k, e1, Nat.le_trans e2 hm, i1, i2⟩ ru rv
theorem tup_same (I : Inv X pins σ H s) {A : Around} {n : Nat} (hu : A.units < cLine) (ih : ∀ x y v u, SamD X.K G n x y → RelV x v → RelV y u → SeqAt.EqP X.prog X.w A.in1 s v u true) {ds : List D} {m : Nat} (hd : eqDepL ds = some m) (hm : m ≤ n) {a b : Addr} {xs ys : List V} (ha : H a = some (.tup xs)) (hb : H b = some (.tup ys)) (r1 : IsL X.K G xs ds) (r2 : IsL X.K G ys ds)
    (E Q : Value → Shared → Prop) (q : Q (.bool true) s) : wpAny (model X.prog X.w) A (richCompare .Eq (.ref a) (.ref b)) Q E s := by
  obtain ⟨its, rv1, e1, z1⟩ := I.tuple (SqT.of ha)
  obtain ⟨its2, rv2, e2, z2⟩ := I.tuple (SqT.of hb)
  have hsz : its.toArray.size = its2.toArray.size := by rw [List.size_toArray, List.size_toArray, ← rv1.length, ← rv2.length, r1.length, r2.length]
  exact GQ.rc_tupG hsz hu (fun _ s' => s' = s) e1 e2 (fun i h1 h2 s' hs => by
    subst hs
    exact items_same ih hd hm r1 r2 rv1 rv2 i h1 h2 E _ ⟨rfl, rfl⟩) (fun s' hs => by rw [hs]; exact q) rfl
theorem same_run (I : Inv X pins σ H s) (gh : Same G H) : ∀ (n : Nat) (A : Around), A.units + n < cLine → ∀ (x y : V) (v u : Value), SamD X.K G n x y → RelV x v → RelV y u → SeqAt.EqP X.prog X.w A s v u true := by
  intro n
  induction n with
  | zero =>
    intro A hu x y v u ⟨d, m, e, hm, i1, i2⟩ rx ry
    cases d with
    | none => rw [i1.noneE] at rx; rw [i2.noneE] at ry; exact (eqAt_same rx ry rfl).eqP
    | bool => rw [i1.boolE] at rx; rw [i2.boolE] at ry; exact (eqAt_same rx ry rfl).eqP
    | int => rw [i1.intE] at rx; rw [i2.intE] at ry; exact (eqAt_same rx ry rfl).eqP
    | str => rw [i1.strE] at rx; rw [i2.strE] at ry; exact (eqAt_same rx ry rfl).eqP
    | list ds => obtain ⟨k, _, rfl⟩ := Option.map_eq_some_iff.mp (show (eqDepL ds).map (· + 1) = some m from e); omega
    | tup ds => obtain ⟨k, _, rfl⟩ := Option.map_eq_some_iff.mp (show (eqDepL ds).map (· + 1) = some m from e); omega
    | dict ks ds => obtain ⟨k, _, rfl⟩ := Option.map_eq_some_iff.mp (show (eqDepL ds).map (· + 1) = some m from e); omega
    | _ => cases e
  | succ n ih =>
    intro A hu x y v u ⟨d, m, e, hm, i1, i2⟩ rx ry
    have ih1 := ih A.in1 (by show A.units + 1 + n < cLine; omega)
    cases d with
    | none => rw [i1.noneE] at rx; rw [i2.noneE] at ry; exact (eqAt_same rx ry rfl).eqP
    | bool => rw [i1.boolE] at rx; rw [i2.boolE] at ry; exact (eqAt_same rx ry rfl).eqP
    | int => rw [i1.intE] at rx; rw [i2.intE] at ry; exact (eqAt_same rx ry rfl).eqP
    | str => rw [i1.strE] at rx; rw [i2.strE] at ry; exact (eqAt_same rx ry rfl).eqP
    | list ds =>
      obtain ⟨k, ek, rfl⟩ := Option.map_eq_some_iff.mp (show (eqDepL ds).map (· + 1) = some m from e)
      obtain ⟨a, xs, rfl, ha, r1⟩ := i1.listE
      obtain ⟨b, ys, rfl, hb, r2⟩ := i2.listE
      cases (show v = Value.ref a from rx)
      cases (show u = Value.ref b from ry)
      by_cases hab : a = b
      · subst hab; exact (SeqAt.EqAt.same _).eqP
      · refine SeqAt.eqP_refs hab fun E Q q => ?_
        obtain ⟨its, rv1, p1, _⟩ := I.list (SqL.of (gh _ _ ha))
        obtain ⟨its2, rv2, p2, _⟩ := I.list (SqL.of (gh _ _ hb))
        have hsz : its.toArray.size = its2.toArray.size := by rw [List.size_toArray, List.size_toArray, ← rv1.length, ← rv2.length, r1.length, r2.length]
        refine SeqAt.rcP_lists (e := fun _ => true) p1.isList p2.isList hsz (by omega) (fun j h1 h2 => items_same ih1 ek (by omega) r1 r2 rv1 rv2 j h1 h2) E Q ?_
        rw [show ((List.range its.toArray.size).all fun _ => true) = true from List.all_eq_true.mpr fun _ _ => rfl]
        exact q
    | tup ds =>
      obtain ⟨k, ek, rfl⟩ := Option.map_eq_some_iff.mp (show (eqDepL ds).map (· + 1) = some m from e)
      obtain ⟨a, xs, rfl, ha, r1⟩ := i1.tupE
      obtain ⟨b, ys, rfl, hb, r2⟩ := i2.tupE
      cases (show v = Value.ref a from rx)
      cases (show u = Value.ref b from ry)
      by_cases hab : a = b
      · subst hab; exact (SeqAt.EqAt.same _).eqP
      · exact SeqAt.eqP_refs hab fun E Q q => tup_same I (by omega) ih1 ek (by omega) (gh _ _ ha) (gh _ _ hb) r1 r2 E Q q
    | dict ks ds =>
      obtain ⟨k, ek, rfl⟩ := Option.map_eq_some_iff.mp (show (eqDepL ds).map (· + 1) = some m from e)
      obtain ⟨a, od, kv, rfl, ha, hk1, r1⟩ := i1.dictE
      obtain ⟨b, od2, kv2, rfl, hb, hk2, r2⟩ := i2.dictE
      cases (show v = Value.ref a from rx)
      cases (show u = Value.ref b from ry)
      by_cases hab : a = b
      · subst hab; exact (SeqAt.EqAt.same _).eqP
      · refine SeqAt.eqP_refs hab fun E Q q => ?_
        obtain ⟨_, ya, va, ra, da⟩ := dk_rd I.hok (show Rd H a (.dK kv) from .inr ⟨od, gh _ _ ha⟩)
        obtain ⟨_, yb, vb, rb, db⟩ := dk_rd I.hok (show Rd H b (.dK kv2) from .inr ⟨od2, gh _ _ hb⟩)
        have nd2 : (kv2.map (·.1)).Nodup := by rw [rb.keys]; exact dictOf_nd db
        refine PySem.W.rcP_dicts (knd := mixKind X.prog X.w) (r := true) ya yb da db (by omega) (fun _ => hits_run ih1 rb ra fun p hp => ?_) E Q ?_
        · obtain ⟨j, hj, ej⟩ := List.mem_iff_getElem.mp hp
          have g1 : (kv.map (·.1))[j]? = some p.1 := by rw [List.getElem?_map, List.getElem?_eq_getElem hj, ej]; rfl
          have g2 : (kv.map (·.2))[j]? = some p.2 := by rw [List.getElem?_map, List.getElem?_eq_getElem hj, ej]; rfl
          obtain ⟨d, hd, id⟩ := r1.get g2
          rw [hk1] at g1
          have lk : lookK (kv2.map (·.1)) ds p.1 = some d := lookK_nd nd2 (by rw [hk2]; exact g1) hd
          obtain ⟨w, e1, e2⟩ := lookK_val r2 lk
          obtain ⟨k', f1, f2⟩ := eqDepL_mem ek d (List.mem_of_getElem? hd)
          exact ⟨w, e1, d, k', f1, by omega, id, e2⟩
        · have el : va.length = vb.length := by
            rw [← ra.length, ← rb.length]
            have := congrArg List.length (hk1.trans hk2.symm)
            rw [List.length_map, List.length_map] at this
            exact this
          rw [show (va.length == vb.length && true) = true from by rw [el]; simp]
          exact q
    | _ => cases e
end
open Classical in
noncomputable def oEqS (x y : D) : Option T := match eqD x y with
  | some b => some (.d (.bool b))
  | none => (match x with
    | .tup ds => if y = .tup ds ∧ ∃ m, eqDepL ds = some m ∧ m ≤ 50 then some (.d (.bool true)) else none
    | _ => none)
theorem ov_eqS {X : Cx} (hu : X.A.units + 64 < cLine) : OpV X (compareOp .Eq) oEqS := fun F A G H x y a b t Q R h1 h2 e k => by
  unfold oEqS at e
  cases q : eqD a b with
  | some z =>
    rw [q] at e
    exact ov_eq hu F A G H x y a b t Q R h1 h2 (by show (eqD a b).map _ = some t; rw [q]; exact e) k
  | none =>
    rw [q] at e
    cases a with
    | tup ds =>
      dsimp only at e
      split at e
      · rename_i hz
        cases e
        obtain ⟨rfl, m, em, hm⟩ := hz
        obtain ⟨p, xs, rfl, hp, r1⟩ := h1.tup _ rfl
        obtain ⟨p2, ys, rfl, hp2, r2⟩ := h2.tup _ rfl
        intro pins s τ v u I rx ry
        cases (show v = Value.ref p from rx)
        cases (show u = Value.ref p2 from ry)
        exact tup_same I (by omega) (same_run I R.gh 50 X.A.in1 (by show X.A.units + 1 + 50 < cLine; omega)) em hm hp hp2 r1 r2 _ _ ⟨.bl true, H, I, rfl, k.data (.bl true) R⟩
      · cases e
    | _ => cases e
end Dn

/-! a, b, c = x, y, z: trees of our own -/
namespace Dn
open PySem PySem.Spec PyProof.Rows L2
def dPar3T (i j l : Nat) (d1 d2 d3 : DE) : DS := fun env => (d1 env).bind fun t env => (d2 env).bind fun u env => (d3 env).bind fun w env => nxO ((putS i t env).bind fun env => (putS j u env).bind fun env => putS l w env)
section
variable {X : Cx} {W : WX} {F : Fm} {ps : List V} {σ : L2.St} {G H : Hp} {A B C : List Addr} {env : Ev} {e1 e2 e3 : Expr} {d1 d2 d3 : DE} {x y z : Str} {pos px py pz pt p : Pos} {i j l : Nat} {kt k2 : Nat}
theorem put_keep {t : T} {v : V} {env' : Ev} (I : EvIs X.K G H ps σ env A) (R : Rel F G H (B ++ (A ++ C))) (h : TIs X.K G H v t B) (e : putS i t env = some env') : ∃ A', EvIs X.K G H ps (σ.set i (some v)) env' A' ∧ Rel F G H (A' ++ C) := by
  unfold putS at e
  by_cases hp : isPar (getS env i) = true
  · rw [if_pos hp] at e; cases e
  · rw [if_neg hp] at e
    cases e
    rw [← List.append_assoc] at R
    obtain ⟨A', _, I', m, n, _⟩ := I.put (by simpa using hp) h
    refine ⟨A', I', R.sub (fun a ha => (List.mem_append.mp ha).elim (fun z => List.mem_append_left _ (m a z)) (List.mem_append_right _)) ?_⟩
    obtain ⟨a1, a2, a3⟩ := List.nodup_append.mp R.nd
    exact List.nodup_append.mpr ⟨n a1, a2, fun a ha b hb => a3 a (m a ha) b hb⟩
theorem SS.par3T (hc : X.calm = true) (hN : X.N.Nodup) (hi : X.N[i]? = some x) (hj : X.N[j]? = some y) (hl : X.N[l]? = some z) (hij : i ≠ j) (hil : i ≠ l) (hjl : j ≠ l) (hx : X.env.scope.names.lookup x = some .local) (hy : X.env.scope.names.lookup y = some .local) (hz : X.env.scope.names.lookup z = some .local)
    (hw : swappedStores [.Tuple [.Name x px, .Name y py, .Name z pz] kt pt] (.Tuple [e1, e2, e3] k2 p) X.env = pure (some [x, y, z])) (hs : swapsWithSole [.Tuple [.Name x px, .Name y py, .Name z pz] kt pt] (.Tuple [e1, e2, e3] k2 p) pos.line X.env = pure false)
    (he : starEach [e1, e2, e3] X.env = (false, eval e1 X.env) :: starEach [e2, e3] X.env) (he2 : starEach [e2, e3] X.env = (false, eval e2 X.env) :: starEach [e3] X.env) (he3 : starEach [e3] X.env = (false, eval e3 X.env) :: starEach [] X.env)
    (h1 : SE X W e1 d1) (h2 : SE X W e2 d2) (h3 : SE X W e3 d3) : SS X W (.Assign [.Tuple [.Name x px, .Name y py, .Name z pz] kt pt] (.Tuple [e1, e2, e3] k2 p) pos) (dPar3T i j l d1 d2 d3) := fun F ps σ G H A D env I R P => by
  refine PS.go (ps_par3 hc hN hi hj hl hij hil hjl hx hy hz (pa_cons pe_run (pa_cons pe_run (pa_cons pe_run pa_nil he3) he2) he) hw hs) ?_
  refine h1.seq I R P fun t env1 v G1 H1 A1 B1 s1 I1 i1 R1 P1 => ?_
  refine h2.seqF (B := B1) I1 (R1.perm List.perm_append_comm) P1 fun u env2 v2 G2 H2 A2 B2 s2 I2 i2 R2 k2 P2 => ?_
  have R2' : Rel F G2 H2 (A2 ++ (B1 ++ B2)) := R2.perm (by
    have := List.perm_append_comm (l₁ := B2) (l₂ := A2 ++ B1)
    rw [List.append_assoc] at this
    exact this)
  refine h3.seqF (B := B1 ++ B2) I2 R2' P2 fun w env3 v3 G3 H3 A3 B3 s3 I3 i3 R3 k3 P3 => ?_
  refine ⟨v, v2, v3, rfl, ?_⟩
  cases q : (putS i t env3).bind fun env => (putS j u env).bind fun env => putS l w env with
  | none => rw [q] at P3; exact P3.elim
  | some env6 =>
    rw [q] at P3
    obtain ⟨env4, q1, q2⟩ := Option.bind_eq_some_iff.mp q
    obtain ⟨env5, q3, q4⟩ := Option.bind_eq_some_iff.mp q2
    have i1' := (i1.up (H' := H2) s2 k2).up (H' := H3) s3 fun a ha => k3 a (List.mem_append_left _ ha)
    have i2' := i2.up (H' := H3) s3 fun a ha => k3 a (List.mem_append_right _ ha)
    have R4 : Rel F G3 H3 (B1 ++ (A3 ++ (B2 ++ B3))) := R3.perm (by
      have h1 : (B3 ++ (A3 ++ (B1 ++ B2))).Perm ((A3 ++ (B1 ++ B2)) ++ B3) := List.perm_append_comm
      have h2 : ((A3 ++ (B1 ++ B2)) ++ B3).Perm (B1 ++ (A3 ++ (B2 ++ B3))) := by
        rw [List.append_assoc, List.append_assoc]
        exact perm3 A3 B1 (B2 ++ B3)
      exact h1.trans h2)
    obtain ⟨A4, I4, R5⟩ := put_keep I3 R4 i1' q1
    have R6 : Rel F G3 H3 (B2 ++ (A4 ++ B3)) := R5.perm (perm3 A4 B2 B3)
    obtain ⟨A5, I5, R7⟩ := put_keep I4 R6 i2' q3
    have R8 : Rel F G3 H3 (B3 ++ (A5 ++ [])) := R7.perm (by rw [List.append_nil]; exact List.perm_append_comm)
    obtain ⟨A6, I6, R9⟩ := put_keep I5 R8 i3 q4
    rw [List.append_nil] at R9
    exact P3 _ G3 H3 A6 ((s1.trans s2).trans s3) I6 R9
end
end Dn

namespace Hd
open PySem PySem.Spec PyProof.Rows L2 Dn
def top (i : Nat) : Stmt := PySem.Challenge.pw_laprunners_k24_sessions.main.body.getD i (.Pass ⟨0, 0, 0, 0⟩)
abbrev s__wall : Stmt := top 0
def d__wall : He.DefD := ⟨("_wall", none), "_wall", "_wall", defArgs s__wall, defBody s__wall, defScope s__wall, [], []⟩
abbrev s_is_integer : Stmt := top 10
def d_is_integer : He.DefD := ⟨("is_integer", none), "is_integer", "is_integer", defArgs s_is_integer, defBody s_is_integer, defScope s_is_integer, [], []⟩
abbrev s_common_divisor : Stmt := top 11
def d_common_divisor : He.DefD := ⟨("common_divisor", none), "common_divisor", "common_divisor", defArgs s_common_divisor, defBody s_common_divisor, defScope s_common_divisor, [], []⟩
abbrev s_is_ratio : Stmt := top 12
def d_is_ratio : He.DefD := ⟨("is_ratio", none), "is_ratio", "is_ratio", defArgs s_is_ratio, defBody s_is_ratio, defScope s_is_ratio, [], []⟩
abbrev s_is_number : Stmt := top 13
def d_is_number : He.DefD := ⟨("is_number", none), "is_number", "is_number", defArgs s_is_number, defBody s_is_number, defScope s_is_number, [], []⟩
abbrev s_ratio : Stmt := top 14
def d_ratio : He.DefD := ⟨("ratio", none), "ratio", "ratio", defArgs s_ratio, defBody s_ratio, defScope s_ratio, [.int 1], []⟩
abbrev s_as_ratio : Stmt := top 15
def d_as_ratio : He.DefD := ⟨("as_ratio", none), "as_ratio", "as_ratio", defArgs s_as_ratio, defBody s_as_ratio, defScope s_as_ratio, [], []⟩
abbrev s_plus : Stmt := top 16
def d_plus : He.DefD := ⟨("plus", none), "plus", "plus", defArgs s_plus, defBody s_plus, defScope s_plus, [], []⟩
abbrev s_minus : Stmt := top 17
def d_minus : He.DefD := ⟨("minus", none), "minus", "minus", defArgs s_minus, defBody s_minus, defScope s_minus, [], []⟩
abbrev s_times : Stmt := top 18
def d_times : He.DefD := ⟨("times", none), "times", "times", defArgs s_times, defBody s_times, defScope s_times, [], []⟩
abbrev s_divided : Stmt := top 19
def d_divided : He.DefD := ⟨("divided", none), "divided", "divided", defArgs s_divided, defBody s_divided, defScope s_divided, [], []⟩
abbrev s_compare : Stmt := top 20
def d_compare : He.DefD := ⟨("compare", none), "compare", "compare", defArgs s_compare, defBody s_compare, defScope s_compare, [], []⟩
abbrev s_floor_of : Stmt := top 21
def d_floor_of : He.DefD := ⟨("floor_of", none), "floor_of", "floor_of", defArgs s_floor_of, defBody s_floor_of, defScope s_floor_of, [], []⟩
abbrev s_remainder : Stmt := top 22
def d_remainder : He.DefD := ⟨("remainder", none), "remainder", "remainder", defArgs s_remainder, defBody s_remainder, defScope s_remainder, [], []⟩
abbrev s_is_name : Stmt := top 28
def d_is_name : He.DefD := ⟨("is_name", none), "is_name", "is_name", defArgs s_is_name, defBody s_is_name, defScope s_is_name, [], []⟩
abbrev s_as_time : Stmt := top 29
def d_as_time : He.DefD := ⟨("as_time", none), "as_time", "as_time", defArgs s_as_time, defBody s_as_time, defScope s_as_time, [], []⟩
abbrev s_is_piece : Stmt := top 30
def d_is_piece : He.DefD := ⟨("is_piece", none), "is_piece", "is_piece", defArgs s_is_piece, defBody s_is_piece, defScope s_is_piece, [], []⟩
abbrev s_are_pieces : Stmt := top 31
def d_are_pieces : He.DefD := ⟨("are_pieces", none), "are_pieces", "are_pieces", defArgs s_are_pieces, defBody s_are_pieces, defScope s_are_pieces, [], []⟩
abbrev s_is_runner : Stmt := top 32
def d_is_runner : He.DefD := ⟨("is_runner", none), "is_runner", "is_runner", defArgs s_is_runner, defBody s_is_runner, defScope s_is_runner, [], []⟩
abbrev s_Race___init__ : Stmt := inClass (top 33) 0
def d_Race___init__ : He.DefD := ⟨("Race", some "__init__"), "__init__", "Race.__init__", defArgs s_Race___init__, defBody s_Race___init__, defScope s_Race___init__, [], []⟩
abbrev s_Race_length : Stmt := inClass (top 33) 1
def d_Race_length : He.DefD := ⟨("Race", some "length"), "length", "Race.length", defArgs s_Race_length, defBody s_Race_length, defScope s_Race_length, [], []⟩
abbrev s_Race_names : Stmt := inClass (top 33) 2
def d_Race_names : He.DefD := ⟨("Race", some "names"), "names", "Race.names", defArgs s_Race_names, defBody s_Race_names, defScope s_Race_names, [], []⟩
abbrev s_Race_runner : Stmt := inClass (top 33) 3
def d_Race_runner : He.DefD := ⟨("Race", some "runner"), "runner", "Race.runner", defArgs s_Race_runner, defBody s_Race_runner, defScope s_Race_runner, [], []⟩
abbrev s_Race_validate_names : Stmt := inClass (top 33) 4
def d_Race_validate_names : He.DefD := ⟨("Race", some "validate_names"), "validate_names", "Race.validate_names", defArgs s_Race_validate_names, defBody s_Race_validate_names, defScope s_Race_validate_names, [], []⟩
abbrev s_Race_start : Stmt := inClass (top 33) 5
def d_Race_start : He.DefD := ⟨("Race", some "start"), "start", "Race.start", defArgs s_Race_start, defBody s_Race_start, defScope s_Race_start, [], []⟩
abbrev s_Race_pieces : Stmt := inClass (top 33) 6
def d_Race_pieces : He.DefD := ⟨("Race", some "pieces"), "pieces", "Race.pieces", defArgs s_Race_pieces, defBody s_Race_pieces, defScope s_Race_pieces, [], []⟩
abbrev s_Race_change_times : Stmt := inClass (top 33) 7
def d_Race_change_times : He.DefD := ⟨("Race", some "change_times"), "change_times", "Race.change_times", defArgs s_Race_change_times, defBody s_Race_change_times, defScope s_Race_change_times, [], []⟩
abbrev s_Race_position : Stmt := inClass (top 33) 8
def d_Race_position : He.DefD := ⟨("Race", some "position"), "position", "Race.position", defArgs s_Race_position, defBody s_Race_position, defScope s_Race_position, [], []⟩
abbrev s_Race_place : Stmt := inClass (top 33) 9
def d_Race_place : He.DefD := ⟨("Race", some "place"), "place", "Race.place", defArgs s_Race_place, defBody s_Race_place, defScope s_Race_place, [], []⟩
abbrev s_Race_laps : Stmt := inClass (top 33) 10
def d_Race_laps : He.DefD := ⟨("Race", some "laps"), "laps", "Race.laps", defArgs s_Race_laps, defBody s_Race_laps, defScope s_Race_laps, [], []⟩
abbrev s_Race_speed : Stmt := inClass (top 33) 11
def d_Race_speed : He.DefD := ⟨("Race", some "speed"), "speed", "Race.speed", defArgs s_Race_speed, defBody s_Race_speed, defScope s_Race_speed, [], []⟩
abbrev s_Race_changed : Stmt := inClass (top 33) 12
def d_Race_changed : He.DefD := ⟨("Race", some "changed"), "changed", "Race.changed", defArgs s_Race_changed, defBody s_Race_changed, defScope s_Race_changed, [], []⟩
abbrev s_Race_with_pieces : Stmt := inClass (top 33) 13
def d_Race_with_pieces : He.DefD := ⟨("Race", some "with_pieces"), "with_pieces", "Race.with_pieces", defArgs s_Race_with_pieces, defBody s_Race_with_pieces, defScope s_Race_with_pieces, [], []⟩
abbrev s_Race_without : Stmt := inClass (top 33) 14
def d_Race_without : He.DefD := ⟨("Race", some "without"), "without", "Race.without", defArgs s_Race_without, defBody s_Race_without, defScope s_Race_without, [], []⟩
abbrev s_Race_renamed : Stmt := inClass (top 33) 15
def d_Race_renamed : He.DefD := ⟨("Race", some "renamed"), "renamed", "Race.renamed", defArgs s_Race_renamed, defBody s_Race_renamed, defScope s_Race_renamed, [], []⟩
abbrev s_Race_turned : Stmt := inClass (top 33) 16
def d_Race_turned : He.DefD := ⟨("Race", some "turned"), "turned", "Race.turned", defArgs s_Race_turned, defBody s_Race_turned, defScope s_Race_turned, [], []⟩
abbrev s_Race_reversed_ring : Stmt := inClass (top 33) 17
def d_Race_reversed_ring : He.DefD := ⟨("Race", some "reversed_ring"), "reversed_ring", "Race.reversed_ring", defArgs s_Race_reversed_ring, defBody s_Race_reversed_ring, defScope s_Race_reversed_ring, [], []⟩
abbrev s_Race_slowed : Stmt := inClass (top 33) 18
def d_Race_slowed : He.DefD := ⟨("Race", some "slowed"), "slowed", "Race.slowed", defArgs s_Race_slowed, defBody s_Race_slowed, defScope s_Race_slowed, [], []⟩
abbrev s_Race___contains__ : Stmt := inClass (top 33) 19
def d_Race___contains__ : He.DefD := ⟨("Race", some "__contains__"), "__contains__", "Race.__contains__", defArgs s_Race___contains__, defBody s_Race___contains__, defScope s_Race___contains__, [], []⟩
abbrev s_Race___len__ : Stmt := inClass (top 33) 20
def d_Race___len__ : He.DefD := ⟨("Race", some "__len__"), "__len__", "Race.__len__", defArgs s_Race___len__, defBody s_Race___len__, defScope s_Race___len__, [], []⟩
abbrev s_Race___eq__ : Stmt := inClass (top 33) 21
def d_Race___eq__ : He.DefD := ⟨("Race", some "__eq__"), "__eq__", "Race.__eq__", defArgs s_Race___eq__, defBody s_Race___eq__, defScope s_Race___eq__, [], []⟩
abbrev s_Session___init__ : Stmt := inClass (top 35) 0
def d_Session___init__ : He.DefD := ⟨("Session", some "__init__"), "__init__", "Session.__init__", defArgs s_Session___init__, defBody s_Session___init__, defScope s_Session___init__, [], []⟩
abbrev s_Session_race : Stmt := inClass (top 35) 1
def d_Session_race : He.DefD := ⟨("Session", some "race"), "race", "Session.race", defArgs s_Session_race, defBody s_Session_race, defScope s_Session_race, [], []⟩
abbrev s_Session_clock : Stmt := inClass (top 35) 2
def d_Session_clock : He.DefD := ⟨("Session", some "clock"), "clock", "Session.clock", defArgs s_Session_clock, defBody s_Session_clock, defScope s_Session_clock, [], []⟩
abbrev s_Session_steps : Stmt := inClass (top 35) 3
def d_Session_steps : He.DefD := ⟨("Session", some "steps"), "steps", "Session.steps", defArgs s_Session_steps, defBody s_Session_steps, defScope s_Session_steps, [], []⟩
abbrev s_Session_keep : Stmt := inClass (top 35) 4
def d_Session_keep : He.DefD := ⟨("Session", some "keep"), "keep", "Session.keep", defArgs s_Session_keep, defBody s_Session_keep, defScope s_Session_keep, [], []⟩
abbrev s_Session_advance : Stmt := inClass (top 35) 5
def d_Session_advance : He.DefD := ⟨("Session", some "advance"), "advance", "Session.advance", defArgs s_Session_advance, defBody s_Session_advance, defScope s_Session_advance, [], []⟩
abbrev s_Session_set_speed : Stmt := inClass (top 35) 6
def d_Session_set_speed : He.DefD := ⟨("Session", some "set_speed"), "set_speed", "Session.set_speed", defArgs s_Session_set_speed, defBody s_Session_set_speed, defScope s_Session_set_speed, [], []⟩
abbrev s_Session_stop : Stmt := inClass (top 35) 7
def d_Session_stop : He.DefD := ⟨("Session", some "stop"), "stop", "Session.stop", defArgs s_Session_stop, defBody s_Session_stop, defScope s_Session_stop, [], []⟩
abbrev s_Session_undo : Stmt := inClass (top 35) 8
def d_Session_undo : He.DefD := ⟨("Session", some "undo"), "undo", "Session.undo", defArgs s_Session_undo, defBody s_Session_undo, defScope s_Session_undo, [], []⟩
abbrev s_Session___len__ : Stmt := inClass (top 35) 9
def d_Session___len__ : He.DefD := ⟨("Session", some "__len__"), "__len__", "Session.__len__", defArgs s_Session___len__, defBody s_Session___len__, defScope s_Session___len__, [], []⟩
abbrev s__law_pool : Stmt := top 37
def d__law_pool : He.DefD := ⟨("_law_pool", none), "_law_pool", "_law_pool", defArgs s__law_pool, defBody s__law_pool, defScope s__law_pool, [], []⟩
abbrev s__law_draw : Stmt := top 38
def d__law_draw : He.DefD := ⟨("_law_draw", none), "_law_draw", "_law_draw", defArgs s__law_draw, defBody s__law_draw, defScope s__law_draw, [], []⟩
abbrev s__law_choose : Stmt := top 39
def d__law_choose : He.DefD := ⟨("_law_choose", none), "_law_choose", "_law_choose", defArgs s__law_choose, defBody s__law_choose, defScope s__law_choose, [], []⟩
abbrev s__law_number : Stmt := top 40
def d__law_number : He.DefD := ⟨("_law_number", none), "_law_number", "_law_number", defArgs s__law_number, defBody s__law_number, defScope s__law_number, [], []⟩
abbrev s__law_pieces : Stmt := top 41
def d__law_pieces : He.DefD := ⟨("_law_pieces", none), "_law_pieces", "_law_pieces", defArgs s__law_pieces, defBody s__law_pieces, defScope s__law_pieces, [], []⟩
abbrev s__law_race : Stmt := top 42
def d__law_race : He.DefD := ⟨("_law_race", none), "_law_race", "_law_race", defArgs s__law_race, defBody s__law_race, defScope s__law_race, [], []⟩
abbrev s__law_step : Stmt := top 43
def d__law_step : He.DefD := ⟨("_law_step", none), "_law_step", "_law_step", defArgs s__law_step, defBody s__law_step, defScope s__law_step, [], []⟩
abbrev s__law_same : Stmt := top 44
def d__law_same : He.DefD := ⟨("_law_same", none), "_law_same", "_law_same", defArgs s__law_same, defBody s__law_same, defScope s__law_same, [], []⟩
abbrev s_law : Stmt := top 45
def d_law : He.DefD := ⟨("law", none), "law", "law", defArgs s_law, defBody s_law, defScope s_law, [], []⟩
def fn : List He.DefD := ([d__wall, d_is_integer, d_common_divisor, d_is_ratio, d_is_number, d_ratio, d_as_ratio, d_plus, d_minus, d_times, d_divided, d_compare, d_floor_of, d_remainder, d_is_name, d_as_time, d_is_piece, d_are_pieces, d_is_runner, d_Race___init__, d_Race_names, d_Race_runner, d_Race_validate_names, d_Race_start, d_Race_pieces, d_Race_change_times, d_Race_position, d_Race_place, d_Race_laps, d_Race_speed] : List He.DefD) ++ ([d_Race_changed, d_Race_with_pieces, d_Race_without, d_Race_renamed, d_Race_turned, d_Race_reversed_ring, d_Race_slowed, d_Race___contains__, d_Race___len__, d_Race___eq__, d_Session___init__, d_Session_keep, d_Session_advance, d_Session_set_speed, d_Session_stop, d_Session_undo, d_Session___len__, d__law_pool, d__law_draw, d__law_choose, d__law_number, d__law_pieces, d__law_race, d__law_step, d__law_same, d_law] : List He.DefD)
def fa : List He.Fa := ([.glo "_wall", .glo "InvalidNumber", .glo "InvalidLength", .glo "InvalidRunner", .glo "InvalidTime", .glo "UnknownName", .glo "DivisionByZero", .glo "NothingToUndo", .glo "is_integer", .glo "common_divisor", .glo "is_ratio", .glo "is_number", .glo "ratio", .glo "as_ratio", .glo "plus", .glo "minus", .glo "times", .glo "divided", .glo "compare", .glo "floor_of", .glo "remainder", .glo "is_name", .glo "as_time", .glo "is_piece", .glo "are_pieces", .glo "is_runner", .glo "Race", .glo "Session", .glo "_law_pool", .glo "_law_draw"] : List He.Fa) ++ ([.glo "_law_choose", .glo "_law_number", .glo "_law_pieces", .glo "_law_race", .glo "_law_step", .glo "_law_same", .glo "law", .free "ArithmeticError", .free "KeyError", .free "RuntimeError", .free "ValueError", .free "abs", .free "all", .free "bool", .free "dict", .free "enumerate", .free "int", .free "isinstance", .free "len", .free "list", .free "max", .free "min", .free "property", .free "range", .free "sorted", .free "str", .free "tuple", .int "MAX_RUNNERS" 12, .int "MAX_PIECES" 20, .str "LETTERS" "abcdefghijklmnopqrstuvwxyz"] : List He.Fa) ++ ([.str "SIGNS" "abcdefghijklmnopqrstuvwxyz0123456789", .cls "Race", .mkr "Race", .noat "Race" "own_length", .noat "Race" "own_parts", .noat "Race" "own_runners", .meth "Race" "__init__", .meth "Race" "names", .meth "Race" "runner", .meth "Race" "validate_names", .meth "Race" "start", .meth "Race" "pieces", .meth "Race" "change_times", .meth "Race" "position", .meth "Race" "place", .meth "Race" "laps", .meth "Race" "speed", .meth "Race" "changed", .meth "Race" "with_pieces", .meth "Race" "without", .meth "Race" "renamed", .meth "Race" "turned", .meth "Race" "reversed_ring", .meth "Race" "slowed", .meth "Race" "__contains__", .meth "Race" "__len__", .meth "Race" "__eq__", .cls "Session", .mkr "Session", .noat "Session" "own_clocks"] : List He.Fa) ++ ([.noat "Session" "own_races", .noat "Session" "own_steps", .meth "Session" "__init__", .meth "Session" "keep", .meth "Session" "advance", .meth "Session" "set_speed", .meth "Session" "stop", .meth "Session" "undo", .meth "Session" "__len__"] : List He.Fa)
def pr : List PrD := ([⟨"Race", "length", d_Race_length⟩, ⟨"Session", "race", d_Session_race⟩, ⟨"Session", "clock", d_Session_clock⟩, ⟨"Session", "steps", d_Session_steps⟩] : List PrD)
def qs : List (PySem.W.Frag → Bool) := [isF "Race", neF "Race"]
abbrev TT (K : PySem.W.Frag) (mg : Str → Option Value) (h : Heap) : Prop := TbX qs pr fa fn K mg h
section
variable {K : PySem.W.Frag} {mg : Str → Option Value} {h : Heap}
theorem g__wall (T : TT K mg h) : mg "_wall" = some (.ref (He.ga K "_wall")) := T.tb.glo "_wall" 0 rfl
theorem g_InvalidNumber (T : TT K mg h) : mg "InvalidNumber" = some (.ref (He.ga K "InvalidNumber")) := T.tb.glo "InvalidNumber" 1 rfl
theorem g_InvalidLength (T : TT K mg h) : mg "InvalidLength" = some (.ref (He.ga K "InvalidLength")) := T.tb.glo "InvalidLength" 2 rfl
theorem g_InvalidRunner (T : TT K mg h) : mg "InvalidRunner" = some (.ref (He.ga K "InvalidRunner")) := T.tb.glo "InvalidRunner" 3 rfl
theorem g_InvalidTime (T : TT K mg h) : mg "InvalidTime" = some (.ref (He.ga K "InvalidTime")) := T.tb.glo "InvalidTime" 4 rfl
theorem g_UnknownName (T : TT K mg h) : mg "UnknownName" = some (.ref (He.ga K "UnknownName")) := T.tb.glo "UnknownName" 5 rfl
theorem g_DivisionByZero (T : TT K mg h) : mg "DivisionByZero" = some (.ref (He.ga K "DivisionByZero")) := T.tb.glo "DivisionByZero" 6 rfl
theorem g_NothingToUndo (T : TT K mg h) : mg "NothingToUndo" = some (.ref (He.ga K "NothingToUndo")) := T.tb.glo "NothingToUndo" 7 rfl
theorem g_is_integer (T : TT K mg h) : mg "is_integer" = some (.ref (He.ga K "is_integer")) := T.tb.glo "is_integer" 8 rfl
theorem g_common_divisor (T : TT K mg h) : mg "common_divisor" = some (.ref (He.ga K "common_divisor")) := T.tb.glo "common_divisor" 9 rfl
theorem g_is_ratio (T : TT K mg h) : mg "is_ratio" = some (.ref (He.ga K "is_ratio")) := T.tb.glo "is_ratio" 10 rfl
theorem g_is_number (T : TT K mg h) : mg "is_number" = some (.ref (He.ga K "is_number")) := T.tb.glo "is_number" 11 rfl
theorem g_ratio (T : TT K mg h) : mg "ratio" = some (.ref (He.ga K "ratio")) := T.tb.glo "ratio" 12 rfl
theorem g_as_ratio (T : TT K mg h) : mg "as_ratio" = some (.ref (He.ga K "as_ratio")) := T.tb.glo "as_ratio" 13 rfl
theorem g_plus (T : TT K mg h) : mg "plus" = some (.ref (He.ga K "plus")) := T.tb.glo "plus" 14 rfl
theorem g_minus (T : TT K mg h) : mg "minus" = some (.ref (He.ga K "minus")) := T.tb.glo "minus" 15 rfl
theorem g_times (T : TT K mg h) : mg "times" = some (.ref (He.ga K "times")) := T.tb.glo "times" 16 rfl
theorem g_divided (T : TT K mg h) : mg "divided" = some (.ref (He.ga K "divided")) := T.tb.glo "divided" 17 rfl
theorem g_compare (T : TT K mg h) : mg "compare" = some (.ref (He.ga K "compare")) := T.tb.glo "compare" 18 rfl
theorem g_floor_of (T : TT K mg h) : mg "floor_of" = some (.ref (He.ga K "floor_of")) := T.tb.glo "floor_of" 19 rfl
theorem g_remainder (T : TT K mg h) : mg "remainder" = some (.ref (He.ga K "remainder")) := T.tb.glo "remainder" 20 rfl
theorem g_is_name (T : TT K mg h) : mg "is_name" = some (.ref (He.ga K "is_name")) := T.tb.glo "is_name" 21 rfl
theorem g_as_time (T : TT K mg h) : mg "as_time" = some (.ref (He.ga K "as_time")) := T.tb.glo "as_time" 22 rfl
theorem g_is_piece (T : TT K mg h) : mg "is_piece" = some (.ref (He.ga K "is_piece")) := T.tb.glo "is_piece" 23 rfl
theorem g_are_pieces (T : TT K mg h) : mg "are_pieces" = some (.ref (He.ga K "are_pieces")) := T.tb.glo "are_pieces" 24 rfl
theorem g_is_runner (T : TT K mg h) : mg "is_runner" = some (.ref (He.ga K "is_runner")) := T.tb.glo "is_runner" 25 rfl
theorem g_Race (T : TT K mg h) : mg "Race" = some (.ref (He.ga K "Race")) := T.tb.glo "Race" 26 rfl
theorem g_Session (T : TT K mg h) : mg "Session" = some (.ref (He.ga K "Session")) := T.tb.glo "Session" 27 rfl
theorem g__law_pool (T : TT K mg h) : mg "_law_pool" = some (.ref (He.ga K "_law_pool")) := T.tb.glo "_law_pool" 28 rfl
theorem g__law_draw (T : TT K mg h) : mg "_law_draw" = some (.ref (He.ga K "_law_draw")) := T.tb.glo "_law_draw" 29 rfl
theorem g__law_choose (T : TT K mg h) : mg "_law_choose" = some (.ref (He.ga K "_law_choose")) := T.tb.glo "_law_choose" 30 rfl
theorem g__law_number (T : TT K mg h) : mg "_law_number" = some (.ref (He.ga K "_law_number")) := T.tb.glo "_law_number" 31 rfl
theorem g__law_pieces (T : TT K mg h) : mg "_law_pieces" = some (.ref (He.ga K "_law_pieces")) := T.tb.glo "_law_pieces" 32 rfl
theorem g__law_race (T : TT K mg h) : mg "_law_race" = some (.ref (He.ga K "_law_race")) := T.tb.glo "_law_race" 33 rfl
theorem g__law_step (T : TT K mg h) : mg "_law_step" = some (.ref (He.ga K "_law_step")) := T.tb.glo "_law_step" 34 rfl
theorem g__law_same (T : TT K mg h) : mg "_law_same" = some (.ref (He.ga K "_law_same")) := T.tb.glo "_law_same" 35 rfl
theorem g_law (T : TT K mg h) : mg "law" = some (.ref (He.ga K "law")) := T.tb.glo "law" 36 rfl
theorem b_ArithmeticError (T : TT K mg h) : mg "ArithmeticError" = none := T.tb.free "ArithmeticError" 37 rfl
theorem b_KeyError (T : TT K mg h) : mg "KeyError" = none := T.tb.free "KeyError" 38 rfl
theorem b_RuntimeError (T : TT K mg h) : mg "RuntimeError" = none := T.tb.free "RuntimeError" 39 rfl
theorem b_ValueError (T : TT K mg h) : mg "ValueError" = none := T.tb.free "ValueError" 40 rfl
theorem b_abs (T : TT K mg h) : mg "abs" = none := T.tb.free "abs" 41 rfl
theorem b_all (T : TT K mg h) : mg "all" = none := T.tb.free "all" 42 rfl
theorem b_bool (T : TT K mg h) : mg "bool" = none := T.tb.free "bool" 43 rfl
theorem b_dict (T : TT K mg h) : mg "dict" = none := T.tb.free "dict" 44 rfl
theorem b_enumerate (T : TT K mg h) : mg "enumerate" = none := T.tb.free "enumerate" 45 rfl
theorem b_int (T : TT K mg h) : mg "int" = none := T.tb.free "int" 46 rfl
theorem b_isinstance (T : TT K mg h) : mg "isinstance" = none := T.tb.free "isinstance" 47 rfl
theorem b_len (T : TT K mg h) : mg "len" = none := T.tb.free "len" 48 rfl
theorem b_list (T : TT K mg h) : mg "list" = none := T.tb.free "list" 49 rfl
theorem b_max (T : TT K mg h) : mg "max" = none := T.tb.free "max" 50 rfl
theorem b_min (T : TT K mg h) : mg "min" = none := T.tb.free "min" 51 rfl
theorem b_property (T : TT K mg h) : mg "property" = none := T.tb.free "property" 52 rfl
theorem b_range (T : TT K mg h) : mg "range" = none := T.tb.free "range" 53 rfl
theorem b_sorted (T : TT K mg h) : mg "sorted" = none := T.tb.free "sorted" 54 rfl
theorem b_str (T : TT K mg h) : mg "str" = none := T.tb.free "str" 55 rfl
theorem b_tuple (T : TT K mg h) : mg "tuple" = none := T.tb.free "tuple" 56 rfl
theorem i_MAX_RUNNERS (T : TT K mg h) : ∃ t, mg "MAX_RUNNERS" = some (.int 12 t) := T.tb.int "MAX_RUNNERS" 12 57 rfl
theorem i_MAX_PIECES (T : TT K mg h) : ∃ t, mg "MAX_PIECES" = some (.int 20 t) := T.tb.int "MAX_PIECES" 20 58 rfl
theorem t_LETTERS (T : TT K mg h) : ∃ t, mg "LETTERS" = some (.str "abcdefghijklmnopqrstuvwxyz" t) := T.tb.str "LETTERS" "abcdefghijklmnopqrstuvwxyz" 59 rfl
theorem t_SIGNS (T : TT K mg h) : ∃ t, mg "SIGNS" = some (.str "abcdefghijklmnopqrstuvwxyz0123456789" t) := T.tb.str "SIGNS" "abcdefghijklmnopqrstuvwxyz0123456789" 60 rfl
theorem cls_Race (T : TT K mg h) : Cls K (He.ga K "Race") := He.cls_ok (x := "Race") (T.tb.c.fact 61 rfl)
theorem mkr_Race (T : TT K mg h) : Mk K (He.ga K "Race") (He.ma K (He.ga K "Race") "__init__") := He.mkr_ok (x := "Race") (T.tb.c.fact 62 rfl)
theorem na_Race_own_length (T : TT K mg h) : NoAttr K (He.ga K "Race") "own_length" := He.noat_ok (x := "Race") (f := "own_length") (T.tb.c.fact 63 rfl)
theorem na_Race_own_parts (T : TT K mg h) : NoAttr K (He.ga K "Race") "own_parts" := He.noat_ok (x := "Race") (f := "own_parts") (T.tb.c.fact 64 rfl)
theorem na_Race_own_runners (T : TT K mg h) : NoAttr K (He.ga K "Race") "own_runners" := He.noat_ok (x := "Race") (f := "own_runners") (T.tb.c.fact 65 rfl)
theorem m_Race___init__ (T : TT K mg h) : Meth K (He.ga K "Race") "__init__" (He.ma K (He.ga K "Race") "__init__") := He.meth_ok (x := "Race") (m := "__init__") (T.tb.c.fact 66 rfl)
theorem m_Race_names (T : TT K mg h) : Meth K (He.ga K "Race") "names" (He.ma K (He.ga K "Race") "names") := He.meth_ok (x := "Race") (m := "names") (T.tb.c.fact 67 rfl)
theorem m_Race_runner (T : TT K mg h) : Meth K (He.ga K "Race") "runner" (He.ma K (He.ga K "Race") "runner") := He.meth_ok (x := "Race") (m := "runner") (T.tb.c.fact 68 rfl)
theorem m_Race_validate_names (T : TT K mg h) : Meth K (He.ga K "Race") "validate_names" (He.ma K (He.ga K "Race") "validate_names") := He.meth_ok (x := "Race") (m := "validate_names") (T.tb.c.fact 69 rfl)
theorem m_Race_start (T : TT K mg h) : Meth K (He.ga K "Race") "start" (He.ma K (He.ga K "Race") "start") := He.meth_ok (x := "Race") (m := "start") (T.tb.c.fact 70 rfl)
theorem m_Race_pieces (T : TT K mg h) : Meth K (He.ga K "Race") "pieces" (He.ma K (He.ga K "Race") "pieces") := He.meth_ok (x := "Race") (m := "pieces") (T.tb.c.fact 71 rfl)
theorem m_Race_change_times (T : TT K mg h) : Meth K (He.ga K "Race") "change_times" (He.ma K (He.ga K "Race") "change_times") := He.meth_ok (x := "Race") (m := "change_times") (T.tb.c.fact 72 rfl)
theorem m_Race_position (T : TT K mg h) : Meth K (He.ga K "Race") "position" (He.ma K (He.ga K "Race") "position") := He.meth_ok (x := "Race") (m := "position") (T.tb.c.fact 73 rfl)
theorem m_Race_place (T : TT K mg h) : Meth K (He.ga K "Race") "place" (He.ma K (He.ga K "Race") "place") := He.meth_ok (x := "Race") (m := "place") (T.tb.c.fact 74 rfl)
theorem m_Race_laps (T : TT K mg h) : Meth K (He.ga K "Race") "laps" (He.ma K (He.ga K "Race") "laps") := He.meth_ok (x := "Race") (m := "laps") (T.tb.c.fact 75 rfl)
theorem m_Race_speed (T : TT K mg h) : Meth K (He.ga K "Race") "speed" (He.ma K (He.ga K "Race") "speed") := He.meth_ok (x := "Race") (m := "speed") (T.tb.c.fact 76 rfl)
theorem m_Race_changed (T : TT K mg h) : Meth K (He.ga K "Race") "changed" (He.ma K (He.ga K "Race") "changed") := He.meth_ok (x := "Race") (m := "changed") (T.tb.c.fact 77 rfl)
theorem m_Race_with_pieces (T : TT K mg h) : Meth K (He.ga K "Race") "with_pieces" (He.ma K (He.ga K "Race") "with_pieces") := He.meth_ok (x := "Race") (m := "with_pieces") (T.tb.c.fact 78 rfl)
theorem m_Race_without (T : TT K mg h) : Meth K (He.ga K "Race") "without" (He.ma K (He.ga K "Race") "without") := He.meth_ok (x := "Race") (m := "without") (T.tb.c.fact 79 rfl)
theorem m_Race_renamed (T : TT K mg h) : Meth K (He.ga K "Race") "renamed" (He.ma K (He.ga K "Race") "renamed") := He.meth_ok (x := "Race") (m := "renamed") (T.tb.c.fact 80 rfl)
theorem m_Race_turned (T : TT K mg h) : Meth K (He.ga K "Race") "turned" (He.ma K (He.ga K "Race") "turned") := He.meth_ok (x := "Race") (m := "turned") (T.tb.c.fact 81 rfl)
theorem m_Race_reversed_ring (T : TT K mg h) : Meth K (He.ga K "Race") "reversed_ring" (He.ma K (He.ga K "Race") "reversed_ring") := He.meth_ok (x := "Race") (m := "reversed_ring") (T.tb.c.fact 82 rfl)
theorem m_Race_slowed (T : TT K mg h) : Meth K (He.ga K "Race") "slowed" (He.ma K (He.ga K "Race") "slowed") := He.meth_ok (x := "Race") (m := "slowed") (T.tb.c.fact 83 rfl)
theorem m_Race___contains__ (T : TT K mg h) : Meth K (He.ga K "Race") "__contains__" (He.ma K (He.ga K "Race") "__contains__") := He.meth_ok (x := "Race") (m := "__contains__") (T.tb.c.fact 84 rfl)
theorem m_Race___len__ (T : TT K mg h) : Meth K (He.ga K "Race") "__len__" (He.ma K (He.ga K "Race") "__len__") := He.meth_ok (x := "Race") (m := "__len__") (T.tb.c.fact 85 rfl)
theorem m_Race___eq__ (T : TT K mg h) : Meth K (He.ga K "Race") "__eq__" (He.ma K (He.ga K "Race") "__eq__") := He.meth_ok (x := "Race") (m := "__eq__") (T.tb.c.fact 86 rfl)
theorem cls_Session (T : TT K mg h) : Cls K (He.ga K "Session") := He.cls_ok (x := "Session") (T.tb.c.fact 87 rfl)
theorem mkr_Session (T : TT K mg h) : Mk K (He.ga K "Session") (He.ma K (He.ga K "Session") "__init__") := He.mkr_ok (x := "Session") (T.tb.c.fact 88 rfl)
theorem na_Session_own_clocks (T : TT K mg h) : NoAttr K (He.ga K "Session") "own_clocks" := He.noat_ok (x := "Session") (f := "own_clocks") (T.tb.c.fact 89 rfl)
theorem na_Session_own_races (T : TT K mg h) : NoAttr K (He.ga K "Session") "own_races" := He.noat_ok (x := "Session") (f := "own_races") (T.tb.c.fact 90 rfl)
theorem na_Session_own_steps (T : TT K mg h) : NoAttr K (He.ga K "Session") "own_steps" := He.noat_ok (x := "Session") (f := "own_steps") (T.tb.c.fact 91 rfl)
theorem m_Session___init__ (T : TT K mg h) : Meth K (He.ga K "Session") "__init__" (He.ma K (He.ga K "Session") "__init__") := He.meth_ok (x := "Session") (m := "__init__") (T.tb.c.fact 92 rfl)
theorem m_Session_keep (T : TT K mg h) : Meth K (He.ga K "Session") "keep" (He.ma K (He.ga K "Session") "keep") := He.meth_ok (x := "Session") (m := "keep") (T.tb.c.fact 93 rfl)
theorem m_Session_advance (T : TT K mg h) : Meth K (He.ga K "Session") "advance" (He.ma K (He.ga K "Session") "advance") := He.meth_ok (x := "Session") (m := "advance") (T.tb.c.fact 94 rfl)
theorem m_Session_set_speed (T : TT K mg h) : Meth K (He.ga K "Session") "set_speed" (He.ma K (He.ga K "Session") "set_speed") := He.meth_ok (x := "Session") (m := "set_speed") (T.tb.c.fact 95 rfl)
theorem m_Session_stop (T : TT K mg h) : Meth K (He.ga K "Session") "stop" (He.ma K (He.ga K "Session") "stop") := He.meth_ok (x := "Session") (m := "stop") (T.tb.c.fact 96 rfl)
theorem m_Session_undo (T : TT K mg h) : Meth K (He.ga K "Session") "undo" (He.ma K (He.ga K "Session") "undo") := He.meth_ok (x := "Session") (m := "undo") (T.tb.c.fact 97 rfl)
theorem m_Session___len__ (T : TT K mg h) : Meth K (He.ga K "Session") "__len__" (He.ma K (He.ga K "Session") "__len__") := He.meth_ok (x := "Session") (m := "__len__") (T.tb.c.fact 98 rfl)
theorem is_Race (T : TT K mg h) : IsOf K "Race" := isF_ok (T.c.q 0 (q := isF "Race") rfl)
theorem ne_Race (T : TT K mg h) : NeOf K "Race" := neF_ok (T.c.q 1 (q := neF "Race") rfl)
end
end Hd

noncomputable section
namespace Cd
open PySem Dn
/-! Race___eq__(self, other) -/
def m_Race___eq__ : List Bool := [false, false]
def c_Race___eq__ : DS := dSeq (dRet (dAndV (dIsO "Race" (pk 1)) (dBn oEqS (dPl 0 [("Race", "own_parts")]) (pkP 1 [("Race", "own_parts")])))) (dSkip)
def F_Race___eq__ : Fn := fnOf m_Race___eq__ 2 c_Race___eq__
/-! Race___contains__(self, name) -/
def m_Race___contains__ : List Bool := [false, false]
def c_Race___contains__ : DS := dSeq (dRet (dAndV (dIsa "str" (pk 1)) (dBp oIn 1 (pkP 0 [("Race", "own_runners")])))) (dSkip)
def F_Race___contains__ : Fn := fnOf m_Race___contains__ 2 c_Race___contains__
/-! Race_runner(self, name) -/
def m_Race_runner : List Bool := [false, false]
def c_Race_runner : DS := dSeq (dIte (aB (dInO "Race" F_Race___contains__ true (dVar 1) (dVar 0))) (dSeq (dNo) (dSkip)) (dSkip)) (dSeq (dRet (dIx (dPl 0 [("Race", "own_runners")]) (pk 1))) (dSkip))
def F_Race_runner : Fn := fnOf m_Race_runner 2 c_Race_runner
/-! Race_pieces(self, name) -/
def m_Race_pieces : List Bool := [false, false]
def c_Race_pieces : DS := dSeq (dRet (dB1 oList (frzD (dIx (dMethP "Race" "runner" F_Race_runner 2 [] (dVar 0) (dCons (dVar 1) (dNil))) (frzD (dC (.int 1))))))) (dSkip)
def F_Race_pieces : Fn := fnOf m_Race_pieces 2 c_Race_pieces
/-! is_integer(value) -/
def m_is_integer : List Bool := [false]
def c_is_integer : DS := dSeq (dRet (dAndV (dIsa "int" (pk 0)) (dNotV (dIsa "bool" (pk 0))))) (dSkip)
def F_is_integer : Fn := fnOf m_is_integer 1 c_is_integer
/-! common_divisor(first, second) -/
def m_common_divisor : List Bool := [false, false]
/-- first, second = (second, first % second) .. -/
def c_common_divisor_0 : DS := dSeq (dPar2 0 1 (dVar 1) (dBp oMod 0 (pk 1))) (dSkip)
def c_common_divisor : DS := dSeq (dWhile (aB (dBp oNe 1 (frzD (dC (.int 0))))) (c_common_divisor_0)) (dSeq (dRet (dB1 oAbs (pk 0))) (dSkip))
def F_common_divisor : Fn := fnOf m_common_divisor 2 c_common_divisor
/-! is_ratio(value) -/
def m_is_ratio : List Bool := [false]
def c_is_ratio : DS := dSeq (dIte (dOr (dNot (dTru (frzD (dIsa "tuple" (pk 0))))) (dOr (aB (dBn oNe (dB1 oLen (pk 0)) (frzD (dC (.int 2))))) (dOr (dNot (dTru (frzD (dCallP F_is_integer 1 [] (dCons (dIxp 0 (frzD (dC (.int 0)))) (dNil)))))) (dNot (dTru (frzD (dCallP F_is_integer 1 [] (dCons (dIxp 0 (frzD (dC (.int 1)))) (dNil))))))))) (dSeq (dRet (dC (.bool false))) (dSkip)) (dSkip)) (dSeq (dRet (dAndV (dBn oGe (dIxp 0 (frzD (dC (.int 1)))) (frzD (dC (.int 1)))) (dBn oEq (dCallP F_common_divisor 2 [] (dCons (dIxp 0 (frzD (dC (.int 0)))) (dCons (dIxp 0 (frzD (dC (.int 1)))) (dNil)))) (frzD (dC (.int 1)))))) (dSkip))
def F_is_ratio : Fn := fnOf m_is_ratio 1 c_is_ratio
/-! is_number(value) -/
def m_is_number : List Bool := [false]
def c_is_number : DS := dSeq (dRet (dOrV (dCallP F_is_integer 1 [] (dCons (dVar 0) (dNil))) (dCallP F_is_ratio 1 [] (dCons (dVar 0) (dNil))))) (dSkip)
def F_is_number : Fn := fnOf m_is_number 1 c_is_number
/-! as_ratio(value) -/
def m_as_ratio : List Bool := [false]
def c_as_ratio : DS := dSeq (dIte (dNot (dTru (frzD (dCallP F_is_number 1 [] (dCons (dVar 0) (dNil)))))) (dSeq (dNo) (dSkip)) (dSkip)) (dSeq (dRet (dIf (dTru (frzD (dCallP F_is_integer 1 [] (dCons (dVar 0) (dNil))))) (dTup (dCons (dVar 0) (dCons (dC (.int 1)) (dNil)))) (dVar 0))) (dSkip))
def F_as_ratio : Fn := fnOf m_as_ratio 1 c_as_ratio
/-! ratio(numerator, denominator, common) -/
def m_ratio : List Bool := [false, false]
def c_ratio : DS := dSeq (dIte (dOr (dNot (dTru (frzD (dCallP F_is_integer 1 [] (dCons (dVar 0) (dNil)))))) (dNot (dTru (frzD (dCallP F_is_integer 1 [] (dCons (dVar 1) (dNil))))))) (dSeq (dNo) (dSkip)) (dSkip)) (dSeq (dIte (aB (dBp oEq 1 (frzD (dC (.int 0))))) (dSeq (dNo) (dSkip)) (dSkip)) (dSeq (dSet 2 (dBn oMul (dCallP F_common_divisor 2 [] (dCons (dVar 0) (dCons (dVar 1) (dNil)))) (frzD (dIf (aB (dBp oGt 1 (frzD (dC (.int 0))))) (dC (.int 1)) (dUn oNeg (frzD (dC (.int 1)))))))) (dSeq (dRet (dTup (dCons (dBp oDiv 0 (pk 2)) (dCons (dBp oDiv 1 (pk 2)) (dNil))))) (dSkip))))
def F_ratio : Fn := fnOf m_ratio 3 c_ratio
/-! minus(first, second, one, two) -/
def m_minus : List Bool := [false, false]
def c_minus : DS := dSeq (dPar2 2 3 (dCallP F_as_ratio 1 [] (dCons (dVar 0) (dNil))) (dCallP F_as_ratio 1 [] (dCons (dVar 1) (dNil)))) (dSeq (dRet (dCallP F_ratio 2 [] (dCons (dBn oSub (dBn oMul (dIxp 2 (frzD (dC (.int 0)))) (frzD (dIxp 3 (frzD (dC (.int 1)))))) (frzD (dBn oMul (dIxp 3 (frzD (dC (.int 0)))) (frzD (dIxp 2 (frzD (dC (.int 1)))))))) (dCons (dBn oMul (dIxp 2 (frzD (dC (.int 1)))) (frzD (dIxp 3 (frzD (dC (.int 1)))))) (dNil))))) (dSkip))
def F_minus : Fn := fnOf m_minus 4 c_minus
/-! compare(first, second, apart) -/
def m_compare : List Bool := [false, false]
def c_compare : DS := dSeq (dSet 2 (dIx (dCallP F_minus 2 [] (dCons (dVar 0) (dCons (dVar 1) (dNil)))) (frzD (dC (.int 0))))) (dSeq (dRet (dBn oSub (dBp oGt 2 (frzD (dC (.int 0)))) (frzD (dBp oLt 2 (frzD (dC (.int 0))))))) (dSkip))
def F_compare : Fn := fnOf m_compare 3 c_compare
/-! is_name(value, sign) -/
def m_is_name : List Bool := [false]
def c_is_name : DS := dSeq (dIte (dOr (dNot (dTru (frzD (dIsa "str" (pk 0))))) (dNot (aB (dChain oLe oLe (dC (.int 1)) (dB1 oLen (pk 0)) (frzD (dC (.int 8))))))) (dSeq (dRet (dC (.bool false))) (dSkip)) (dSkip)) (dSeq (dRet (dAndV (dBn oIn (dIxp 0 (frzD (dC (.int 0)))) (frzD (dC (.str "abcdefghijklmnopqrstuvwxyz")))) (dB1 oAll (frzD (dLc (dIt (dVar 0)) [1] (turnD [1] (gNm 1) (dYes) (dBp oIn 1 (frzD (dC (.str "abcdefghijklmnopqrstuvwxyz0123456789")))))))))) (dSkip))
def F_is_name : Fn := fnOf m_is_name 2 c_is_name
/-! is_piece(value) -/
def m_is_piece : List Bool := [false]
def c_is_piece : DS := dSeq (dIte (dOr (dNot (dTru (frzD (dIsa "tuple" (pk 0))))) (aB (dBn oNe (dB1 oLen (pk 0)) (frzD (dC (.int 2)))))) (dSeq (dRet (dC (.bool false))) (dSkip)) (dSkip)) (dSeq (dRet (dAndV (dCallP F_is_number 1 [] (dCons (dIxp 0 (frzD (dC (.int 0)))) (dNil))) (dAndV (dCallP F_is_number 1 [] (dCons (dIxp 0 (frzD (dC (.int 1)))) (dNil))) (dBn oGe (dCallP F_compare 2 [] (dCons (dIxp 0 (frzD (dC (.int 0)))) (dCons (dC (.int 0)) (dNil)))) (frzD (dC (.int 0))))))) (dSkip))
def F_is_piece : Fn := fnOf m_is_piece 1 c_is_piece
/-! are_pieces(value, piece, at) -/
def m_are_pieces : List Bool := [false]
def c_are_pieces : DS := dSeq (dIte (dOr (dNot (dTru (frzD (dIsaL ["list", "tuple"] (pk 0))))) (dNot (aB (dChain oLe oLe (dC (.int 1)) (dB1 oLen (pk 0)) (frzD (dC (.int 20))))))) (dSeq (dRet (dC (.bool false))) (dSkip)) (dSkip)) (dSeq (dIte (dOr (dNot (dTru (frzD (dB1 oAll (frzD (dLc (dIt (dVar 0)) [1] (turnD [1] (gNm 1) (dYes) (dCallP F_is_piece 1 [] (dCons (dVar 1) (dNil)))))))))) (aB (dBn oNe (dCallP F_compare 2 [] (dCons (dIx (dIxp 0 (frzD (dC (.int 0)))) (frzD (dC (.int 0)))) (dCons (dC (.int 0)) (dNil)))) (frzD (dC (.int 0)))))) (dSeq (dRet (dC (.bool false))) (dSkip)) (dSkip)) (dSeq (dRet (dB1 oAll (frzD (dLc (dRng rng1D (dCons (dBn oSub (dB1 oLen (pk 0)) (frzD (dC (.int 1)))) (dNil))) [2] (turnD [2] (gNm 2) (dYes) (dBn oLt (dCallP F_compare 2 [] (dCons (dIx (dIxp 0 (pk 2)) (frzD (dC (.int 0)))) (dCons (dIx (dIxp 0 (frzD (dBp oAdd 2 (frzD (dC (.int 1)))))) (frzD (dC (.int 0)))) (dNil)))) (frzD (dC (.int 0))))))))) (dSkip)))
def F_are_pieces : Fn := fnOf m_are_pieces 3 c_are_pieces
/-! is_runner(value) -/
def m_is_runner : List Bool := [false]
def c_is_runner : DS := dSeq (dRet (dAndV (dIsa "tuple" (pk 0)) (dAndV (dBn oEq (dB1 oLen (pk 0)) (frzD (dC (.int 2)))) (dAndV (dCallP F_is_number 1 [] (dCons (dIxp 0 (frzD (dC (.int 0)))) (dNil))) (dCallP F_are_pieces 1 [] (dCons (dIxp 0 (frzD (dC (.int 1)))) (dNil))))))) (dSkip)
def F_is_runner : Fn := fnOf m_is_runner 1 c_is_runner
/-! divided(first, second, one, two) -/
def m_divided : List Bool := [false, false]
def c_divided : DS := dSeq (dPar2 2 3 (dCallP F_as_ratio 1 [] (dCons (dVar 0) (dNil))) (dCallP F_as_ratio 1 [] (dCons (dVar 1) (dNil)))) (dSeq (dRet (dCallP F_ratio 2 [] (dCons (dBn oMul (dIxp 2 (frzD (dC (.int 0)))) (frzD (dIxp 3 (frzD (dC (.int 1)))))) (dCons (dBn oMul (dIxp 2 (frzD (dC (.int 1)))) (frzD (dIxp 3 (frzD (dC (.int 0)))))) (dNil))))) (dSkip))
def F_divided : Fn := fnOf m_divided 4 c_divided
/-! floor_of(value, one) -/
def m_floor_of : List Bool := [false]
def c_floor_of : DS := dSeq (dSet 1 (dCallP F_as_ratio 1 [] (dCons (dVar 0) (dNil)))) (dSeq (dRet (dBn oDiv (dIxp 1 (frzD (dC (.int 0)))) (frzD (dIxp 1 (frzD (dC (.int 1))))))) (dSkip))
def F_floor_of : Fn := fnOf m_floor_of 2 c_floor_of
/-! times(first, second, one, two) -/
def m_times : List Bool := [false, false]
def c_times : DS := dSeq (dPar2 2 3 (dCallP F_as_ratio 1 [] (dCons (dVar 0) (dNil))) (dCallP F_as_ratio 1 [] (dCons (dVar 1) (dNil)))) (dSeq (dRet (dCallP F_ratio 2 [] (dCons (dBn oMul (dIxp 2 (frzD (dC (.int 0)))) (frzD (dIxp 3 (frzD (dC (.int 0)))))) (dCons (dBn oMul (dIxp 2 (frzD (dC (.int 1)))) (frzD (dIxp 3 (frzD (dC (.int 1)))))) (dNil))))) (dSkip))
def F_times : Fn := fnOf m_times 4 c_times
/-! remainder(value, modulus, one, two) -/
def m_remainder : List Bool := [false, false]
def c_remainder : DS := dSeq (dPar2 2 3 (dCallP F_as_ratio 1 [] (dCons (dVar 0) (dNil))) (dCallP F_as_ratio 1 [] (dCons (dVar 1) (dNil)))) (dSeq (dIte (aB (dBn oLe (dIxp 3 (frzD (dC (.int 0)))) (frzD (dC (.int 0))))) (dSeq (dNo) (dSkip)) (dSkip)) (dSeq (dRet (dCallP F_minus 2 [] (dCons (dVar 2) (dCons (dCallP F_times 2 [] (dCons (dVar 3) (dCons (dCallP F_floor_of 1 [] (dCons (dCallP F_divided 2 [] (dCons (dVar 2) (dCons (dVar 3) (dNil)))) (dNil))) (dNil)))) (dNil))))) (dSkip)))
def F_remainder : Fn := fnOf m_remainder 4 c_remainder
/-! Race___init__(self, length, runners, name, runner, start, pieces, rows, time, speed) -/
def m_Race___init__ : List Bool := [true, false, false]
/-- if not is_name(name) or not is_runner(runner):     raise InvalidRunner(name) .. -/
def c_Race___init___0 : DS := dSeq (dIte (dOr (dNot (dTru (frzD (dCallP F_is_name 1 [] (dCons (dVar 3) (dNil)))))) (dNot (dTru (frzD (dCallP F_is_runner 1 [] (dCons (dVar 4) (dNil))))))) (dSeq (dNo) (dSkip)) (dSkip)) (dSkip)
/-- start, pieces = runners[name] .. -/
def c_Race___init___1 : DS := dSeq (dAsg (gTup 2 (gCons (gNm 5) (gCons (gNm 6) (gNil)))) (dIxp 2 (pk 3))) (dSeq (dSet 7 (dLc (dIt (dVar 6)) [8, 9] (turnD [8, 9] (gTup 2 (gCons (gNm 8) (gCons (gNm 9) (gNil)))) (dYes) (dTup (dCons (dCallP F_as_ratio 1 [] (dCons (dVar 8) (dNil))) (dCons (dCallP F_as_ratio 1 [] (dCons (dVar 9) (dNil))) (dNil))))))) (dSeq (dItemQ 0 [("Race", "own_runners")] (fun env => (getE env 3 []).map T.frz) (dTup (dCons (dCallP F_remainder 2 [] (dCons (dVar 5) (dCons (dVar 1) (dNil)))) (dCons (dVar 7) (dNil))))) (dSkip)))
def c_Race___init__ : DS := dSeq (dIte (dOr (dNot (dTru (frzD (dCallP F_is_number 1 [] (dCons (dVar 1) (dNil)))))) (aB (dBn oLe (dCallP F_compare 2 [] (dCons (dVar 1) (dCons (dC (.int 0)) (dNil)))) (frzD (dC (.int 0)))))) (dSeq (dNo) (dSkip)) (dSkip)) (dSeq (dIte (dOr (dNot (dTru (frzD (dIsa "dict" (pk 2))))) (dNot (aB (dChain oLe oLe (dC (.int 1)) (dB1 oLen (pk 2)) (frzD (dC (.int 12))))))) (dSeq (dNo) (dSkip)) (dSkip)) (dSeq (dFor (dItD itmD (dVar 2)) (gTup 2 (gCons (gNm 3) (gCons (gNm 4) (gNil)))) (c_Race___init___0)) (dSeq (dFld 0 [] "Race" "own_length" (dCallP F_as_ratio 1 [] (dCons (dVar 1) (dNil)))) (dSeq (dFld 0 [] "Race" "own_runners" (dNewK)) (dSeq (dFor (dIt (dB1 oSorted (pk 2))) (gNm 3) (c_Race___init___1)) (dSeq (dFld 0 [] "Race" "own_parts" (dTup (dCons (dPl 0 [("Race", "own_length")]) (dCons (dPl 0 [("Race", "own_runners")]) (dNil))))) (dSkip)))))))
def F_Race___init__ : Fn := fnOf m_Race___init__ 10 c_Race___init__
/-! Race_length(self) -/
def m_Race_length : List Bool := [false]
def c_Race_length : DS := dSeq (dRet (dPl 0 [("Race", "own_length")])) (dSkip)
def F_Race_length : Fn := fnOf m_Race_length 1 c_Race_length
/-! Race_start(self, name) -/
def m_Race_start : List Bool := [false, false]
def c_Race_start : DS := dSeq (dRet (dIx (dMethP "Race" "runner" F_Race_runner 2 [] (dVar 0) (dCons (dVar 1) (dNil))) (frzD (dC (.int 0))))) (dSkip)
def F_Race_start : Fn := fnOf m_Race_start 2 c_Race_start
/-! Race_with_pieces(self, name, pieces) -/
def m_Race_with_pieces : List Bool := [false, false, false]
def c_Race_with_pieces : DS := dSeq (dRet (dMk "Race" F_Race___init__ 2 [] (dCons (dProp "Race" F_Race_length (dVar 0)) (dCons (dStarK (dPl 0 [("Race", "own_runners")]) (dVar 1) (dTup (dCons (dMethP "Race" "start" F_Race_start 2 [] (dVar 0) (dCons (dVar 1) (dNil))) (dCons (dVar 2) (dNil))))) (dNil))))) (dSkip)
def F_Race_with_pieces : Fn := fnOf m_Race_with_pieces 3 c_Race_with_pieces
/-! as_time(value) -/
def m_as_time : List Bool := [false]
def c_as_time : DS := dSeq (dIte (dOr (dNot (dTru (frzD (dCallP F_is_number 1 [] (dCons (dVar 0) (dNil)))))) (aB (dBn oLt (dCallP F_compare 2 [] (dCons (dVar 0) (dCons (dC (.int 0)) (dNil)))) (frzD (dC (.int 0)))))) (dSeq (dNo) (dSkip)) (dSkip)) (dSeq (dRet (dCallP F_as_ratio 1 [] (dCons (dVar 0) (dNil)))) (dSkip))
def F_as_time : Fn := fnOf m_as_time 1 c_as_time
/-! Race_changed(self, name, time, speed, pieces, moment, rest, piece) -/
def m_Race_changed : List Bool := [false, false, false, false]
def c_Race_changed : DS := dSeq (dSet 4 (dMethP "Race" "pieces" F_Race_pieces 2 [] (dVar 0) (dCons (dVar 1) (dNil)))) (dSeq (dSet 5 (dCallP F_as_time 1 [] (dCons (dVar 2) (dNil)))) (dSeq (dSet 6 (dLc (dIt (dVar 4)) [7] (turnD [7] (gNm 7) (aB (dBn oLt (dCallP F_compare 2 [] (dCons (dIxp 7 (frzD (dC (.int 0)))) (dCons (dVar 5) (dNil)))) (frzD (dC (.int 0))))) (dVar 7)))) (dSeq (dRet (dMethP "Race" "with_pieces" F_Race_with_pieces 3 [] (dVar 0) (dCons (dVar 1) (dCons (dLst (dStar (dVar 6) (dCons (dTup (dCons (dVar 5) (dCons (dCallP F_as_ratio 1 [] (dCons (dVar 3) (dNil))) (dNil)))) (dNil)))) (dNil))))) (dSkip))))
def F_Race_changed : Fn := fnOf m_Race_changed 8 c_Race_changed
/-! Session___init__(self, race) -/
def m_Session___init__ : List Bool := [true, false]
def c_Session___init__ : DS := dSeq (dFld 0 [] "Session" "own_races" (dLst (dCons (dVar 1) (dNil)))) (dSeq (dFld 0 [] "Session" "own_clocks" (dLst (dCons (dTup (dCons (dC (.int 0)) (dCons (dC (.int 1)) (dNil)))) (dNil)))) (dSeq (dFld 0 [] "Session" "own_steps" (dLst (dNil))) (dSkip)))
def F_Session___init__ : Fn := fnOf m_Session___init__ 2 c_Session___init__
/-! Session___len__(self) -/
def m_Session___len__ : List Bool := [true]
def c_Session___len__ : DS := dSeq (dRet (dB1 oLen (pkP 0 [("Session", "own_steps")]))) (dSkip)
def F_Session___len__ : Fn := fnOf m_Session___len__ 1 c_Session___len__
/-! Session_clock(self) -/
def m_Session_clock : List Bool := [true]
def c_Session_clock : DS := dSeq (dRet (dIxQ (fun env => (getE env 0 [("Session", "own_clocks")]).map T.frz) (fun _ => some (.int (-1))))) (dSkip)
def F_Session_clock : Fn := fnOf m_Session_clock 1 c_Session_clock
/-! Session_race(self) -/
def m_Session_race : List Bool := [true]
def c_Session_race : DS := dSeq (dRet (dIxQ (fun env => (getE env 0 [("Session", "own_races")]).map T.frz) (fun _ => some (.int (-1))))) (dSkip)
def F_Session_race : Fn := fnOf m_Session_race 1 c_Session_race
/-! Session_undo(self) -/
def m_Session_undo : List Bool := [true]
def c_Session_undo : DS := dSeq (dIte (dNot (dTru (pkP 0 [("Session", "own_steps")]))) (dSeq (dNo) (dSkip)) (dSkip)) (dSeq (dExpr (dPop 0 [("Session", "own_races")])) (dSeq (dExpr (dPop 0 [("Session", "own_clocks")])) (dSeq (dRet (dPop 0 [("Session", "own_steps")])) (dSkip))))
def F_Session_undo : Fn := fnOf m_Session_undo 1 c_Session_undo
/-! _law_draw(pool, many, digit) -/
def m__law_draw : List Bool := [true, false]
def c__law_draw : DS := dSeq (dIte (aB (dBn oGt (dIxp 0 (frzD (dC (.int 0)))) (frzD (dC (.int 0))))) (dSeq (dSet 2 (dBn oMod (dIxp 0 (frzD (dC (.int 0)))) (pk 1))) (dSeq (dItemQ 0 [] (fun _ => some (.int 0)) (dBn oDiv (dIxp 0 (frzD (dC (.int 0)))) (pk 1))) (dSeq (dRetV 2) (dSkip)))) (dSkip)) (dSeq (dItemQ 0 [] (fun _ => some (.int 1)) (dBn oMod (dBn oAdd (dBn oMul (dIxp 0 (frzD (dC (.int 1)))) (frzD (dC (.int 48271)))) (frzD (dC (.int 11)))) (frzD (dC (.int 2147483647))))) (dSeq (dRet (dBn oMod (dBn oDiv (dBn oMod (dBn oMul (dIxp 0 (frzD (dC (.int 1)))) (frzD (dIxp 0 (frzD (dC (.int 1)))))) (frzD (dC (.int 2147483629)))) (frzD (dC (.int 64)))) (pk 1))) (dSkip)))
def F__law_draw : Fn := fnOf m__law_draw 3 c__law_draw
/-! _law_pool(script, k, cell, seed) -/
def m__law_pool : List Bool := [false, false]
def c__law_pool : DS := dSeq (dSet 2 (dC (.int 0))) (dSeq (dIte (aB (dBp oLt 1 (frzD (dB1 oLen (pk 0))))) (dSeq (dSet 2 (dIxp 0 (pk 1))) (dSkip)) (dSkip)) (dSeq (dSet 3 (dBn oMod (dBn oPow (dBn oAdd (dBn oAdd (dBp oMod 2 (frzD (dC (.int 2147483629)))) (frzD (dBn oMul (dBn oMul (dC (.int 7919)) (pk 1)) (pk 1)))) (frzD (dC (.int 31)))) (frzD (dC (.int 3)))) (frzD (dC (.int 2147483647))))) (dSeq (dIte (aB (dBp oLt 2 (frzD (dBn oPow (dC (.int 10)) (frzD (dC (.int 18))))))) (dSeq (dSet 2 (dC (.int 0))) (dSkip)) (dSkip)) (dSeq (dRet (dLst (dCons (dVar 2) (dCons (dVar 3) (dNil))))) (dSkip)))))
def F__law_pool : Fn := fnOf m__law_pool 4 c__law_pool
/-! _law_choose(pool, items) -/
def m__law_choose : List Bool := [true, false]
def c__law_choose : DS := dSeq (dRet (dIxp 1 (frzD (dCallO m__law_draw F__law_draw [] (rO 0 (rD (dB1 oLen (pk 1)) (rNil))))))) (dSkip)
def F__law_choose : Fn := fnOf m__law_choose 2 c__law_choose
/-! _law_number(pool, low, high, value) -/
def m__law_number : List Bool := [true, false, false]
def c__law_number : DS := dSeq (dSet 3 (dBp oAdd 1 (frzD (dCallO m__law_draw F__law_draw [] (rO 0 (rD (dBn oAdd (dBp oSub 2 (pk 1)) (frzD (dC (.int 1)))) (rNil))))))) (dSeq (dIte (aB (dBn oGt (dCallO m__law_draw F__law_draw [] (rO 0 (rD (dC (.int 3)) (rNil)))) (frzD (dC (.int 0))))) (dSeq (dRetV 3) (dSkip)) (dSkip)) (dSeq (dRet (dCallP F_ratio 2 [] (dCons (dBn oAdd (dBp oMul 3 (frzD (dC (.int 2)))) (frzD (dCallO m__law_draw F__law_draw [] (rO 0 (rD (dC (.int 3)) (rNil)))))) (dCons (dBn oAdd (dC (.int 2)) (frzD (dCallO m__law_draw F__law_draw [] (rO 0 (rD (dC (.int 2)) (rNil)))))) (dNil))))) (dSkip)))
def F__law_number : Fn := fnOf m__law_number 4 c__law_number
/-! plus(first, second, one, two) -/
def m_plus : List Bool := [false, false]
def c_plus : DS := dSeq (dPar2 2 3 (dCallP F_as_ratio 1 [] (dCons (dVar 0) (dNil))) (dCallP F_as_ratio 1 [] (dCons (dVar 1) (dNil)))) (dSeq (dRet (dCallP F_ratio 2 [] (dCons (dBn oAdd (dBn oMul (dIxp 2 (frzD (dC (.int 0)))) (frzD (dIxp 3 (frzD (dC (.int 1)))))) (frzD (dBn oMul (dIxp 3 (frzD (dC (.int 0)))) (frzD (dIxp 2 (frzD (dC (.int 1)))))))) (dCons (dBn oMul (dIxp 2 (frzD (dC (.int 1)))) (frzD (dIxp 3 (frzD (dC (.int 1)))))) (dNil))))) (dSkip))
def F_plus : Fn := fnOf m_plus 4 c_plus
/-! _law_pieces(pool, pieces, time, turn) -/
def m__law_pieces : List Bool := [true]
/-- time = plus(time, ratio(1 + _law_draw(pool, 6), 1 + _law_draw(pool, 3))) .. -/
def c__law_pieces_0 : DS := dSeq (dSet 2 (dCallP F_plus 2 [] (dCons (dVar 2) (dCons (dCallP F_ratio 2 [] (dCons (dBn oAdd (dC (.int 1)) (frzD (dCallO m__law_draw F__law_draw [] (rO 0 (rD (dC (.int 6)) (rNil)))))) (dCons (dBn oAdd (dC (.int 1)) (frzD (dCallO m__law_draw F__law_draw [] (rO 0 (rD (dC (.int 3)) (rNil)))))) (dNil)))) (dNil))))) (dSeq (dExpr (dMut appT 1 (dTup (dCons (dVar 2) (dCons (dCallO m__law_number F__law_number [] (rO 0 (rD (dUn oNeg (frzD (dC (.int 4)))) (rD (dC (.int 4)) (rNil))))) (dNil)))))) (dSkip))
def c__law_pieces : DS := dSeq (dPar2 1 2 (dLst (dCons (dTup (dCons (dC (.int 0)) (dCons (dCallO m__law_number F__law_number [] (rO 0 (rD (dUn oNeg (frzD (dC (.int 4)))) (rD (dC (.int 4)) (rNil))))) (dNil)))) (dNil))) (dC (.int 0))) (dSeq (dFor (dRng rng1D (dCons (dCallO m__law_draw F__law_draw [] (rO 0 (rD (dC (.int 3)) (rNil)))) (dNil))) (gNm 3) (c__law_pieces_0)) (dSeq (dRetV 1) (dSkip)))
def F__law_pieces : Fn := fnOf m__law_pieces 4 c__law_pieces
/-! _law_race(pool, many, runners, name) -/
def m__law_race : List Bool := [true, false]
/-- runners[name] = (_law_number(pool, -3, 9), _law_pieces(pool)) .. -/
def c__law_race_0 : DS := dSeq (dItemQ 2 [] (fun env => (getE env 3 []).map T.frz) (dTup (dCons (dCallO m__law_number F__law_number [] (rO 0 (rD (dUn oNeg (frzD (dC (.int 3)))) (rD (dC (.int 9)) (rNil))))) (dCons (dCallO m__law_pieces F__law_pieces [] (rO 0 (rNil))) (dNil))))) (dSkip)
def c__law_race : DS := dSeq (dSet 2 (dNewK)) (dSeq (dFor (dIt (dSl (dLst (dCons (dC (.str "a")) (dCons (dC (.str "b")) (dCons (dC (.str "c")) (dCons (dC (.str "d")) (dNil)))))) (oNo) (oSm (dVar 1)))) (gNm 3) (c__law_race_0)) (dSeq (dRet (dMk "Race" F_Race___init__ 2 [] (dCons (dCallO m__law_choose F__law_choose [] (rO 0 (rD (dLst (dCons (dC (.int 10)) (dCons (dC (.int 7)) (dCons (dC (.int 1)) (dCons (dTup (dCons (dC (.int 5)) (dCons (dC (.int 2)) (dNil)))) (dCons (dC (.int 12)) (dCons (dC (.int 3)) (dNil)))))))) (rNil)))) (dCons (dVar 2) (dNil))))) (dSkip)))
def F__law_race : Fn := fnOf m__law_race 4 c__law_race
/-! Session_steps(self) -/
def m_Session_steps : List Bool := [true]
def c_Session_steps : DS := dSeq (dRet (dB1 oList (pkP 0 [("Session", "own_steps")]))) (dSkip)
def F_Session_steps : Fn := fnOf m_Session_steps 1 c_Session_steps
/-! _law_same(session, races, clocks, steps) -/
def m__law_same : List Bool := [true, true, true, true]
def c__law_same : DS := dSeq (dIte (dOr (aB (dEqO "Race" F_Race___eq__ true (dPropO "Session" F_Session_race 0) (dIxp 1 (frzD (dUn oNeg (frzD (dC (.int 1)))))))) (aB (dBn oNe (dPropO "Session" F_Session_clock 0) (frzD (dIxp 2 (frzD (dUn oNeg (frzD (dC (.int 1)))))))))) (dSeq (dRet (dC (.bool false))) (dSkip)) (dSkip)) (dSeq (dIte (dOr (aB (dBn oNe (dPropO "Session" F_Session_steps 0) (pk 3))) (aB (dBn oNe (dLenOO "Session" F_Session___len__ 0) (frzD (dB1 oLen (pk 3)))))) (dSeq (dRet (dC (.bool false))) (dSkip)) (dSkip)) (dSeq (dExpr (dAppTmp (dPropO "Session" F_Session_steps 0) (dC .none))) (dSeq (dRet (dBn oEq (dPropO "Session" F_Session_steps 0) (pk 3))) (dSkip))))
def F__law_same : Fn := fnOf m__law_same 4 c__law_same
/-! Race_names(self) -/
def m_Race_names : List Bool := [false]
def c_Race_names : DS := dSeq (dRet (dB1 oList (pkP 0 [("Race", "own_runners")]))) (dSkip)
def F_Race_names : Fn := fnOf m_Race_names 1 c_Race_names
/-! Session_keep(self, race, clock, step) -/
def m_Session_keep : List Bool := [true, false, false, false]
def c_Session_keep : DS := dSeq (dExpr (dAppQ 0 [("Session", "own_races")] (dSlot 1))) (dSeq (dExpr (dAppQ 0 [("Session", "own_clocks")] (dSlot 2))) (dSeq (dExpr (dAppQ 0 [("Session", "own_steps")] (dSlot 3))) (dSkip)))
def F_Session_keep : Fn := fnOf m_Session_keep 4 c_Session_keep
/-! Session_advance(self, time, moment) -/
def m_Session_advance : List Bool := [true, false]
def c_Session_advance : DS := dSeq (dSet 2 (dCallP F_as_time 1 [] (dCons (dVar 1) (dNil)))) (dSeq (dIte (aB (dBn oLt (dCallP F_compare 2 [] (dCons (dVar 2) (dCons (dPropO "Session" F_Session_clock 0) (dNil)))) (frzD (dC (.int 0))))) (dSeq (dNo) (dSkip)) (dSkip)) (dSeq (dExpr (dMethO "Session" "keep" m_Session_keep F_Session_keep [] 0 (rD (dPropO "Session" F_Session_race 0) (rD (dVar 2) (rD (dTup (dCons (dC (.str "advance")) (dCons (dVar 2) (dNil)))) (rNil)))))) (dSkip)))
def F_Session_advance : Fn := fnOf m_Session_advance 3 c_Session_advance
/-! Session_set_speed(self, name, speed, race) -/
def m_Session_set_speed : List Bool := [true, false, false]
def c_Session_set_speed : DS := dSeq (dSet 3 (dMethP "Race" "changed" F_Race_changed 4 [] (dPropO "Session" F_Session_race 0) (dCons (dVar 1) (dCons (dPropO "Session" F_Session_clock 0) (dCons (dVar 2) (dNil)))))) (dSeq (dExpr (dMethO "Session" "keep" m_Session_keep F_Session_keep [] 0 (rD (dVar 3) (rD (dPropO "Session" F_Session_clock 0) (rD (dTup (dCons (dC (.str "speed")) (dCons (dVar 1) (dCons (dCallP F_as_ratio 1 [] (dCons (dVar 2) (dNil))) (dNil))))) (rNil)))))) (dSkip))
def F_Session_set_speed : Fn := fnOf m_Session_set_speed 4 c_Session_set_speed
/-! Session_stop(self, name) -/
def m_Session_stop : List Bool := [true, false]
def c_Session_stop : DS := dSeq (dExpr (dMethO "Session" "set_speed" m_Session_set_speed F_Session_set_speed [] 0 (rD (dVar 1) (rD (dC (.int 0)) (rNil))))) (dSkip)
def F_Session_stop : Fn := fnOf m_Session_stop 2 c_Session_stop
/-! _law_step(pool, session, way, moment, name, speed) -/
def m__law_step : List Bool := [true, true]
def c__law_step : DS := dSeq (dSet 2 (dCallO m__law_draw F__law_draw [] (rO 0 (rD (dC (.int 4)) (rNil))))) (dSeq (dIte (aB (dBp oEq 2 (frzD (dC (.int 0))))) (dSeq (dSet 3 (dCallP F_plus 2 [] (dCons (dPropO "Session" F_Session_clock 1) (dCons (dCallO m__law_number F__law_number [] (rO 0 (rD (dC (.int 0)) (rD (dC (.int 6)) (rNil))))) (dNil))))) (dSeq (dExpr (dMethO "Session" "advance" m_Session_advance F_Session_advance [] 1 (rD (dVar 3) (rNil)))) (dSeq (dRet (dTup (dCons (dC (.str "advance")) (dCons (dVar 3) (dNil))))) (dSkip)))) (dSkip)) (dSeq (dPar2 4 5 (dCallO m__law_choose F__law_choose [] (rO 0 (rD (dMethP "Race" "names" F_Race_names 1 [] (dPropO "Session" F_Session_race 1) dNil) (rNil)))) (dCallO m__law_number F__law_number [] (rO 0 (rD (dUn oNeg (frzD (dC (.int 4)))) (rD (dC (.int 4)) (rNil)))))) (dSeq (dIte (aB (dBp oEq 2 (frzD (dC (.int 1))))) (dSeq (dExpr (dMethO "Session" "stop" m_Session_stop F_Session_stop [] 1 (rD (dVar 4) (rNil)))) (dSeq (dRet (dTup (dCons (dC (.str "speed")) (dCons (dVar 4) (dCons (dTup (dCons (dC (.int 0)) (dCons (dC (.int 1)) (dNil)))) (dNil)))))) (dSkip))) (dSkip)) (dSeq (dExpr (dMethO "Session" "set_speed" m_Session_set_speed F_Session_set_speed [] 1 (rD (dVar 4) (rD (dVar 5) (rNil))))) (dSeq (dRet (dTup (dCons (dC (.str "speed")) (dCons (dVar 4) (dCons (dCallP F_plus 2 [] (dCons (dVar 5) (dCons (dC (.int 0)) (dNil)))) (dNil)))))) (dSkip))))))
def F__law_step : Fn := fnOf m__law_step 6 c__law_step
/-! law(script, k, pool, race, session, races, clocks, steps, turn, step) -/
def m_law : List Bool := [false]
/-- if steps != [] and _law_draw(pool, 4) == 0:     if session.undo() != steps.pop():          .. -/
def c_law_0 : DS := dSeq (dIte (dAnd (aB (dBp oNe 7 (frzD (dLst (dNil))))) (aB (dBn oEq (dCallO m__law_draw F__law_draw [] (rO 2 (rD (dC (.int 4)) (rNil)))) (frzD (dC (.int 0)))))) (dSeq (dIte (aB (dBn oNe (dMethO "Session" "undo" m_Session_undo F_Session_undo [] 4 rNil) (frzD (dPop 7 [])))) (dSeq (dRet (dC (.bool false))) (dSkip)) (dSkip)) (dSeq (dExpr (dPop 5 [])) (dSeq (dExpr (dPop 6 [])) (dSkip)))) (dSeq (dSet 9 (dCallO m__law_step F__law_step [] (rO 2 (rO 4 (rNil))))) (dSeq (dExpr (dMut appT 7 (dVar 9))) (dSeq (dIte (aB (dBn oEq (dIxp 9 (frzD (dC (.int 0)))) (frzD (dC (.str "advance"))))) (dSeq (dExpr (dMut appT 5 (dIxp 5 (frzD (dUn oNeg (frzD (dC (.int 1)))))))) (dSeq (dExpr (dMut appT 6 (dIxp 9 (frzD (dC (.int 1)))))) (dSkip))) (dSeq (dExpr (dMut appT 5 (dMethP "Race" "changed" F_Race_changed 4 [] (dIxp 5 (frzD (dUn oNeg (frzD (dC (.int 1)))))) (dCons (dIxp 9 (frzD (dC (.int 1)))) (dCons (dIxp 6 (frzD (dUn oNeg (frzD (dC (.int 1)))))) (dCons (dIxp 9 (frzD (dC (.int 2)))) (dNil))))))) (dSeq (dExpr (dMut appT 6 (dIxp 6 (frzD (dUn oNeg (frzD (dC (.int 1)))))))) (dSkip)))) (dSkip))))) (dSeq (dIte (dNot (dTru (frzD (dCallO m__law_same F__law_same [] (rO 4 (rO 5 (rO 6 (rO 7 (rNil))))))))) (dSeq (dRet (dC (.bool false))) (dSkip)) (dSkip)) (dSkip))
/-- session.undo() .. -/
def c_law_1 : DS := dSeq (dExpr (dMethO "Session" "undo" m_Session_undo F_Session_undo [] 4 rNil)) (dSkip)
/-- pool = _law_pool(script, k) .. -/
def c_law_2 : DS := dSeq (dSet 2 (dCallP F__law_pool 2 [] (dCons (dVar 0) (dCons (dVar 1) (dNil))))) (dSeq (dSet 3 (dCallO m__law_race F__law_race [] (rO 2 (rD (dBn oAdd (dC (.int 1)) (frzD (dCallO m__law_draw F__law_draw [] (rO 2 (rD (dC (.int 3)) (rNil)))))) (rNil))))) (dSeq (dSet 4 (dMk "Session" F_Session___init__ 1 [] (dCons (dVar 3) (dNil)))) (dSeq (dPar3T 5 6 7 (dLst (dCons (dVar 3) (dNil))) (dLst (dCons (dTup (dCons (dC (.int 0)) (dCons (dC (.int 1)) (dNil)))) (dNil))) (dLst (dNil))) (dSeq (dFor (dRng rng1D (dCons (dC (.int 8)) (dNil))) (gNm 8) (c_law_0)) (dSeq (dWhile (aB (dBn oGt (dLenOO "Session" F_Session___len__ 4) (frzD (dC (.int 0))))) (c_law_1)) (dSeq (dIte (dOr (aB (dEqO "Race" F_Race___eq__ true (dPropO "Session" F_Session_race 4) (dVar 3))) (aB (dBn oNe (dPropO "Session" F_Session_clock 4) (frzD (dTup (dCons (dC (.int 0)) (dCons (dC (.int 1)) (dNil)))))))) (dSeq (dRet (dC (.bool false))) (dSkip)) (dSkip)) (dSkip)))))))
def c_law : DS := dSeq (dFor (dRng rng1D (dCons (dBs oMax2 (dCons (dC (.int 1)) (dCons (dBs oMin2 (dCons (dB1 oLen (pk 0)) (dCons (dC (.int 6)) (dNil)))) (dNil)))) (dNil))) (gNm 1) (c_law_2)) (dSeq (dRet (dC (.bool true))) (dSkip))
def F_law : Fn := fnOf m_law 10 c_law
end Cd
end

namespace Wk
open PySem PySem.Spec PyProof.Rows L2 Dn Cd
section
variable {P : Program} {w : World} {K : PySem.W.Frag} {mg : Str → Option Value} {base h : Heap}
abbrev N_Race___eq__ : List Str := ["self", "other"]
theorem nd_Race___eq__ : (N_Race___eq__).Nodup := by decide
theorem sc_Race___eq__ : FnScope N_Race___eq__ ["self", "other"] (defScope Hd.s_Race___eq__) := ⟨rfl, rfl, rfl, by decide +kernel, rfl, by decide +kernel, by decide +kernel⟩
theorem n_Race___eq___self : Nm N_Race___eq__ (defScope Hd.s_Race___eq__) 0 "self" := ⟨rfl, by decide +kernel, by decide +kernel, by decide +kernel⟩
theorem n_Race___eq___other : Nm N_Race___eq__ (defScope Hd.s_Race___eq__) 1 "other" := ⟨rfl, by decide +kernel, by decide +kernel, by decide +kernel⟩
theorem b_Race___eq__ (T : Hd.TT K mg h) : BodyD P w K mg base N_Race___eq__ "Race.__eq__" (defScope Hd.s_Race___eq__) (defBody Hd.s_Race___eq__) (He.ma K (He.ga K "Race") "__eq__") 0 Cd.c_Race___eq__ := fun cdv A outer s H E hr hgd tk po =>
  have hu := Room.units hr
  SB.cons (SS.ret (SE.and (SE.isaO (Hd.is_Race T) (Hd.cls_Race T) (Hd.b_isinstance T) (Hd.g_Race T) rfl rfl rfl (sp rfl) (sp rfl) (bt rfl) (SV.pkN n_Race___eq___other)) (SE.one (SE.cmpn (ov_eqS hu) rfl (SE.pl (SPl.attr (Hd.cls_Race T) (Hd.na_Race_own_parts T) rfl (SPl.nameN n_Race___eq___self))) (SV.pl (SPl.attr (Hd.cls_Race T) (Hd.na_Race_own_parts T) rfl (SPl.nameN n_Race___eq___other))))))) (SB.nil)
theorem D_Race___eq__ (T : Hd.TT K mg h) : DefM P w K mg base "Race" "__eq__" 1 ["self", "other"] [] (spF K Cd.m_Race___eq__ Cd.F_Race___eq__) :=
  defm T.tb (Hd.cls_Race T) (Hd.m_Race___eq__ T) 39 rfl rfl rfl rfl (fun _ _ _ _ _ _ us hl => match us, hl with | [_, _], _ => rfl) fun fd F => fn_ok F sc_Race___eq__ rfl (by decide) (b_Race___eq__ T)
abbrev N_Race___contains__ : List Str := ["self", "name"]
theorem nd_Race___contains__ : (N_Race___contains__).Nodup := by decide
theorem sc_Race___contains__ : FnScope N_Race___contains__ ["self", "name"] (defScope Hd.s_Race___contains__) := ⟨rfl, rfl, rfl, by decide +kernel, rfl, by decide +kernel, by decide +kernel⟩
theorem n_Race___contains___self : Nm N_Race___contains__ (defScope Hd.s_Race___contains__) 0 "self" := ⟨rfl, by decide +kernel, by decide +kernel, by decide +kernel⟩
theorem n_Race___contains___name : Nm N_Race___contains__ (defScope Hd.s_Race___contains__) 1 "name" := ⟨rfl, by decide +kernel, by decide +kernel, by decide +kernel⟩
theorem b_Race___contains__ (T : Hd.TT K mg h) : BodyD P w K mg base N_Race___contains__ "Race.__contains__" (defScope Hd.s_Race___contains__) (defBody Hd.s_Race___contains__) (He.ma K (He.ga K "Race") "__contains__") 0 Cd.c_Race___contains__ := fun cdv A outer s H E hr hgd tk po =>
  have hu := Room.units hr
  SB.cons (SS.ret (SE.and (SE.isa (Hd.b_isinstance T) (Hd.b_str T) (by decide +kernel) rfl rfl (by decide) rfl (sp rfl) (sp rfl) (bt rfl) (SV.pkN n_Race___contains___name)) (SE.one (SE.cmppN (ov_in hu) rfl n_Race___contains___name (SV.pl (SPl.attr (Hd.cls_Race T) (Hd.na_Race_own_runners T) rfl (SPl.nameN n_Race___contains___self))))))) (SB.nil)
theorem D_Race___contains__ (T : Hd.TT K mg h) : DefM P w K mg base "Race" "__contains__" 1 ["self", "name"] [] (spF K Cd.m_Race___contains__ Cd.F_Race___contains__) :=
  defm T.tb (Hd.cls_Race T) (Hd.m_Race___contains__ T) 37 rfl rfl rfl rfl (fun _ _ _ _ _ _ us hl => match us, hl with | [_, _], _ => rfl) fun fd F => fn_ok F sc_Race___contains__ rfl (by decide) (b_Race___contains__ T)
abbrev N_Race_runner : List Str := ["self", "name"]
theorem nd_Race_runner : (N_Race_runner).Nodup := by decide
theorem sc_Race_runner : FnScope N_Race_runner ["self", "name"] (defScope Hd.s_Race_runner) := ⟨rfl, rfl, rfl, by decide +kernel, rfl, by decide +kernel, by decide +kernel⟩
theorem n_Race_runner_self : Nm N_Race_runner (defScope Hd.s_Race_runner) 0 "self" := ⟨rfl, by decide +kernel, by decide +kernel, by decide +kernel⟩
theorem n_Race_runner_name : Nm N_Race_runner (defScope Hd.s_Race_runner) 1 "name" := ⟨rfl, by decide +kernel, by decide +kernel, by decide +kernel⟩
theorem b_Race_runner (T : Hd.TT K mg h) : BodyD P w K mg base N_Race_runner "Race.runner" (defScope Hd.s_Race_runner) (defBody Hd.s_Race_runner) (He.ma K (He.ga K "Race") "runner") 2 Cd.c_Race_runner := fun cdv A outer s H E hr hgd tk po =>
  have hu := Room.units hr
  SB.cons (SS.ite (ST.notInO (hr.mono (j := 1) (by decide)) hgd (D_Race___contains__ T) rfl (SE.varN n_Race_runner_name) (SE.varN n_Race_runner_self)) (SB.cons (SS.no) (SB.nil)) (SB.nil)) (SB.cons (SS.ret (SE.ix hu (fun _ _ => rfl) (SE.pl (SPl.attr (Hd.cls_Race T) (Hd.na_Race_own_runners T) rfl (SPl.nameN n_Race_runner_self))) (SV.pkN n_Race_runner_name))) (SB.nil))
theorem D_Race_runner (T : Hd.TT K mg h) : DefM P w K mg base "Race" "runner" 3 ["self", "name"] [] (spF K Cd.m_Race_runner Cd.F_Race_runner) :=
  defm T.tb (Hd.cls_Race T) (Hd.m_Race_runner T) 21 rfl rfl rfl rfl (fun _ _ _ _ _ _ us hl => match us, hl with | [_, _], _ => rfl) fun fd F => fn_ok F sc_Race_runner rfl (by decide) (b_Race_runner T)
abbrev N_Race_pieces : List Str := ["self", "name"]
theorem nd_Race_pieces : (N_Race_pieces).Nodup := by decide
theorem sc_Race_pieces : FnScope N_Race_pieces ["self", "name"] (defScope Hd.s_Race_pieces) := ⟨rfl, rfl, rfl, by decide +kernel, rfl, by decide +kernel, by decide +kernel⟩
theorem n_Race_pieces_self : Nm N_Race_pieces (defScope Hd.s_Race_pieces) 0 "self" := ⟨rfl, by decide +kernel, by decide +kernel, by decide +kernel⟩
theorem n_Race_pieces_name : Nm N_Race_pieces (defScope Hd.s_Race_pieces) 1 "name" := ⟨rfl, by decide +kernel, by decide +kernel, by decide +kernel⟩
theorem b_Race_pieces (T : Hd.TT K mg h) : BodyD P w K mg base N_Race_pieces "Race.pieces" (defScope Hd.s_Race_pieces) (defBody Hd.s_Race_pieces) (He.ma K (He.ga K "Race") "pieces") 4 Cd.c_Race_pieces := fun cdv A outer s H E hr hgd tk po =>
  have hu := Room.units hr
  SB.cons (SS.ret (SE.callT1 (cv_list rfl) (Hd.b_list T) (by decide +kernel) rfl (by decide) rfl (sp rfl) (bt rfl) (SE.v (SE.ix hu (fun _ _ => rfl) (SE.methP tk (hr.mono (j := 3) (by decide)) hgd (D_Race_runner T) (sp rfl) (bt rfl) rfl (SE.varN n_Race_pieces_self) (SA.cons (sp rfl) (SE.varN n_Race_pieces_name) (SA.nil))) (SE.v (SE.int)))))) (SB.nil)
theorem D_Race_pieces (T : Hd.TT K mg h) : DefM P w K mg base "Race" "pieces" 5 ["self", "name"] [] (spF K Cd.m_Race_pieces Cd.F_Race_pieces) :=
  defm T.tb (Hd.cls_Race T) (Hd.m_Race_pieces T) 24 rfl rfl rfl rfl (fun _ _ _ _ _ _ us hl => match us, hl with | [_, _], _ => rfl) fun fd F => fn_ok F sc_Race_pieces rfl (by decide) (b_Race_pieces T)
abbrev N_is_integer : List Str := ["value"]
theorem nd_is_integer : (N_is_integer).Nodup := by decide
theorem sc_is_integer : FnScope N_is_integer ["value"] (defScope Hd.s_is_integer) := ⟨rfl, rfl, rfl, by decide +kernel, rfl, by decide +kernel, by decide +kernel⟩
theorem n_is_integer_value : Nm N_is_integer (defScope Hd.s_is_integer) 0 "value" := ⟨rfl, by decide +kernel, by decide +kernel, by decide +kernel⟩
theorem b_is_integer (T : Hd.TT K mg h) : BodyD P w K mg base N_is_integer "is_integer" (defScope Hd.s_is_integer) (defBody Hd.s_is_integer) (He.ga K "is_integer") 0 Cd.c_is_integer := fun cdv A outer s H E hr hgd tk po =>
  have hu := Room.units hr
  SB.cons (SS.ret (SE.and (SE.isa (Hd.b_isinstance T) (Hd.b_int T) (by decide +kernel) rfl rfl (by decide) rfl (sp rfl) (sp rfl) (bt rfl) (SV.pkN n_is_integer_value)) (SE.one (SE.not (SE.isa (Hd.b_isinstance T) (Hd.b_bool T) (by decide +kernel) rfl rfl (by decide) rfl (sp rfl) (sp rfl) (bt rfl) (SV.pkN n_is_integer_value)))))) (SB.nil)
theorem D_is_integer (T : Hd.TT K mg h) : Def1 P w K mg base "is_integer" 1 ["value"] [] (spF K Cd.m_is_integer Cd.F_is_integer) :=
  def1 T.tb (Hd.g_is_integer T) 1 rfl rfl rfl rfl (fun _ _ _ _ _ _ us hl => match us, hl with | [_], _ => rfl) fun fd F => fn_ok F sc_is_integer rfl (by decide) (b_is_integer T)
abbrev N_common_divisor : List Str := ["first", "second"]
theorem nd_common_divisor : (N_common_divisor).Nodup := by decide
theorem sc_common_divisor : FnScope N_common_divisor ["first", "second"] (defScope Hd.s_common_divisor) := ⟨rfl, rfl, rfl, by decide +kernel, rfl, by decide +kernel, by decide +kernel⟩
theorem n_common_divisor_first : Nm N_common_divisor (defScope Hd.s_common_divisor) 0 "first" := ⟨rfl, by decide +kernel, by decide +kernel, by decide +kernel⟩
theorem n_common_divisor_second : Nm N_common_divisor (defScope Hd.s_common_divisor) 1 "second" := ⟨rfl, by decide +kernel, by decide +kernel, by decide +kernel⟩
theorem b_common_divisor_0 (T : Hd.TT K mg h) : BodyD P w K mg base N_common_divisor "common_divisor" (defScope Hd.s_common_divisor) (whB (atB (defBody Hd.s_common_divisor) 0)) (He.ga K "common_divisor") 0 Cd.c_common_divisor_0 := fun cdv A outer s H E hr hgd tk po =>
  have hu := Room.units hr
  SB.cons (SS.par2 rfl nd_common_divisor rfl rfl (by decide) rfl rfl rfl rfl (sp rfl) (sp rfl) (SE.varN n_common_divisor_second) (SE.bpN ov_mod n_common_divisor_first (SV.pkN n_common_divisor_second))) (SB.nil)
theorem b_common_divisor (T : Hd.TT K mg h) : BodyD P w K mg base N_common_divisor "common_divisor" (defScope Hd.s_common_divisor) (defBody Hd.s_common_divisor) (He.ga K "common_divisor") 0 Cd.c_common_divisor := fun cdv A outer s H E hr hgd tk po =>
  have hu := Room.units hr
  SB.cons (SS.while po (ST.cmppN (ov_ne hu) rfl n_common_divisor_second (SE.v (SE.int))) ((b_common_divisor_0 T cdv A outer s H E hr hgd tk po))) (SB.cons (SS.ret (SE.callB1 cv_abs (Hd.b_abs T) (by decide +kernel) rfl (by decide) rfl (sp rfl) (bt rfl) (SV.pkN n_common_divisor_first))) (SB.nil))
theorem D_common_divisor (T : Hd.TT K mg h) : Def1 P w K mg base "common_divisor" 1 ["first", "second"] [] (spF K Cd.m_common_divisor Cd.F_common_divisor) :=
  def1 T.tb (Hd.g_common_divisor T) 2 rfl rfl rfl rfl (fun _ _ _ _ _ _ us hl => match us, hl with | [_, _], _ => rfl) fun fd F => fn_ok F sc_common_divisor rfl (by decide) (b_common_divisor T)
end
end Wk

namespace Wk
open PySem PySem.Spec PyProof.Rows L2 Dn Cd
section
variable {P : Program} {w : World} {K : PySem.W.Frag} {mg : Str → Option Value} {base h : Heap}
abbrev N_is_ratio : List Str := ["value"]
theorem nd_is_ratio : (N_is_ratio).Nodup := by decide
theorem sc_is_ratio : FnScope N_is_ratio ["value"] (defScope Hd.s_is_ratio) := ⟨rfl, rfl, rfl, by decide +kernel, rfl, by decide +kernel, by decide +kernel⟩
theorem n_is_ratio_value : Nm N_is_ratio (defScope Hd.s_is_ratio) 0 "value" := ⟨rfl, by decide +kernel, by decide +kernel, by decide +kernel⟩
theorem b_is_ratio (T : Hd.TT K mg h) : BodyD P w K mg base N_is_ratio "is_ratio" (defScope Hd.s_is_ratio) (defBody Hd.s_is_ratio) (He.ga K "is_ratio") 2 Cd.c_is_ratio := fun cdv A outer s H E hr hgd tk po =>
  have hu := Room.units hr
  SB.cons (SS.ite (ST.wp (SW.or (ST.not (ST.tru (fun _ => rfl) (SE.v (SE.isa (Hd.b_isinstance T) (Hd.b_tuple T) (by decide +kernel) rfl rfl (by decide) rfl (sp rfl) (sp rfl) (bt rfl) (SV.pkN n_is_ratio_value))))) (SW.or (ST.cmpn (ov_ne hu) rfl (SE.callB1 cv_len (Hd.b_len T) (by decide +kernel) rfl (by decide) rfl (sp rfl) (bt rfl) (SV.pkN n_is_ratio_value)) (SE.v (SE.int))) (SW.or (ST.not (ST.tru (fun _ => rfl) (SE.v (Dn.SE.callP tk (hr.mono (j := 1) (by decide)) hgd (D_is_integer T) rfl rfl (sp rfl) (bt rfl) (SA.cons (sp rfl) (SE.ixpN hu (fun _ _ => rfl) n_is_ratio_value (SE.v (SE.int))) (SA.nil)))))) (SW.or1 (ST.not (ST.tru (fun _ => rfl) (SE.v (Dn.SE.callP tk (hr.mono (j := 1) (by decide)) hgd (D_is_integer T) rfl rfl (sp rfl) (bt rfl) (SA.cons (sp rfl) (SE.ixpN hu (fun _ _ => rfl) n_is_ratio_value (SE.v (SE.int))) (SA.nil))))))))))) (SB.cons (SS.ret (SE.bl)) (SB.nil)) (SB.nil)) (SB.cons (SS.ret (SE.and (SE.cmpn ov_ge rfl (SE.ixpN hu (fun _ _ => rfl) n_is_ratio_value (SE.v (SE.int))) (SE.v (SE.int))) (SE.one (SE.cmpn (ov_eq hu) rfl (Dn.SE.callP tk (hr.mono (j := 1) (by decide)) hgd (D_common_divisor T) rfl rfl (sp rfl) (bt rfl) (SA.cons (sp rfl) (SE.ixpN hu (fun _ _ => rfl) n_is_ratio_value (SE.v (SE.int))) (SA.cons (sp rfl) (SE.ixpN hu (fun _ _ => rfl) n_is_ratio_value (SE.v (SE.int))) (SA.nil)))) (SE.v (SE.int)))))) (SB.nil))
theorem D_is_ratio (T : Hd.TT K mg h) : Def1 P w K mg base "is_ratio" 3 ["value"] [] (spF K Cd.m_is_ratio Cd.F_is_ratio) :=
  def1 T.tb (Hd.g_is_ratio T) 3 rfl rfl rfl rfl (fun _ _ _ _ _ _ us hl => match us, hl with | [_], _ => rfl) fun fd F => fn_ok F sc_is_ratio rfl (by decide) (b_is_ratio T)
abbrev N_is_number : List Str := ["value"]
theorem nd_is_number : (N_is_number).Nodup := by decide
theorem sc_is_number : FnScope N_is_number ["value"] (defScope Hd.s_is_number) := ⟨rfl, rfl, rfl, by decide +kernel, rfl, by decide +kernel, by decide +kernel⟩
theorem n_is_number_value : Nm N_is_number (defScope Hd.s_is_number) 0 "value" := ⟨rfl, by decide +kernel, by decide +kernel, by decide +kernel⟩
theorem b_is_number (T : Hd.TT K mg h) : BodyD P w K mg base N_is_number "is_number" (defScope Hd.s_is_number) (defBody Hd.s_is_number) (He.ga K "is_number") 4 Cd.c_is_number := fun cdv A outer s H E hr hgd tk po =>
  have hu := Room.units hr
  SB.cons (SS.ret (SE.or (Dn.SE.callP tk (hr.mono (j := 1) (by decide)) hgd (D_is_integer T) rfl rfl (sp rfl) (bt rfl) (SA.cons (sp rfl) (SE.varN n_is_number_value) (SA.nil))) (SE.one (Dn.SE.callP tk (hr.mono (j := 3) (by decide)) hgd (D_is_ratio T) rfl rfl (sp rfl) (bt rfl) (SA.cons (sp rfl) (SE.varN n_is_number_value) (SA.nil)))))) (SB.nil)
theorem D_is_number (T : Hd.TT K mg h) : Def1 P w K mg base "is_number" 5 ["value"] [] (spF K Cd.m_is_number Cd.F_is_number) :=
  def1 T.tb (Hd.g_is_number T) 4 rfl rfl rfl rfl (fun _ _ _ _ _ _ us hl => match us, hl with | [_], _ => rfl) fun fd F => fn_ok F sc_is_number rfl (by decide) (b_is_number T)
abbrev N_as_ratio : List Str := ["value"]
theorem nd_as_ratio : (N_as_ratio).Nodup := by decide
theorem sc_as_ratio : FnScope N_as_ratio ["value"] (defScope Hd.s_as_ratio) := ⟨rfl, rfl, rfl, by decide +kernel, rfl, by decide +kernel, by decide +kernel⟩
theorem n_as_ratio_value : Nm N_as_ratio (defScope Hd.s_as_ratio) 0 "value" := ⟨rfl, by decide +kernel, by decide +kernel, by decide +kernel⟩
theorem b_as_ratio (T : Hd.TT K mg h) : BodyD P w K mg base N_as_ratio "as_ratio" (defScope Hd.s_as_ratio) (defBody Hd.s_as_ratio) (He.ga K "as_ratio") 6 Cd.c_as_ratio := fun cdv A outer s H E hr hgd tk po =>
  have hu := Room.units hr
  SB.cons (SS.ite (ST.not (ST.tru (fun _ => rfl) (SE.v (Dn.SE.callP tk (hr.mono (j := 5) (by decide)) hgd (D_is_number T) rfl rfl (sp rfl) (bt rfl) (SA.cons (sp rfl) (SE.varN n_as_ratio_value) (SA.nil)))))) (SB.cons (SS.no) (SB.nil)) (SB.nil)) (SB.cons (SS.ret (SE.ife (ST.tru (fun _ => rfl) (SE.v (Dn.SE.callP tk (hr.mono (j := 1) (by decide)) hgd (D_is_integer T) rfl rfl (sp rfl) (bt rfl) (SA.cons (sp rfl) (SE.varN n_as_ratio_value) (SA.nil))))) (SE.tup (SA.cons (sp rfl) (SE.varN n_as_ratio_value) (SA.cons (sp rfl) (SE.int) (SA.nil)))) (SE.varN n_as_ratio_value))) (SB.nil))
theorem D_as_ratio (T : Hd.TT K mg h) : Def1 P w K mg base "as_ratio" 7 ["value"] [] (spF K Cd.m_as_ratio Cd.F_as_ratio) :=
  def1 T.tb (Hd.g_as_ratio T) 6 rfl rfl rfl rfl (fun _ _ _ _ _ _ us hl => match us, hl with | [_], _ => rfl) fun fd F => fn_ok F sc_as_ratio rfl (by decide) (b_as_ratio T)
abbrev N_ratio : List Str := ["numerator", "denominator", "common"]
theorem nd_ratio : (N_ratio).Nodup := by decide
theorem sc_ratio : FnScope N_ratio ["numerator", "denominator"] (defScope Hd.s_ratio) := ⟨rfl, rfl, rfl, by decide +kernel, rfl, by decide +kernel, by decide +kernel⟩
theorem n_ratio_numerator : Nm N_ratio (defScope Hd.s_ratio) 0 "numerator" := ⟨rfl, by decide +kernel, by decide +kernel, by decide +kernel⟩
theorem n_ratio_denominator : Nm N_ratio (defScope Hd.s_ratio) 1 "denominator" := ⟨rfl, by decide +kernel, by decide +kernel, by decide +kernel⟩
theorem n_ratio_common : Nm N_ratio (defScope Hd.s_ratio) 2 "common" := ⟨rfl, by decide +kernel, by decide +kernel, by decide +kernel⟩
theorem l_ratio_common : Lc N_ratio (defScope Hd.s_ratio) 2 "common" := ⟨rfl, by decide +kernel⟩
theorem b_ratio (T : Hd.TT K mg h) : BodyD P w K mg base N_ratio "ratio" (defScope Hd.s_ratio) (defBody Hd.s_ratio) (He.ga K "ratio") 2 Cd.c_ratio := fun cdv A outer s H E hr hgd tk po =>
  have hu := Room.units hr
  SB.cons (SS.ite (ST.wp (SW.or (ST.not (ST.tru (fun _ => rfl) (SE.v (Dn.SE.callP tk (hr.mono (j := 1) (by decide)) hgd (D_is_integer T) rfl rfl (sp rfl) (bt rfl) (SA.cons (sp rfl) (SE.varN n_ratio_numerator) (SA.nil)))))) (SW.or1 (ST.not (ST.tru (fun _ => rfl) (SE.v (Dn.SE.callP tk (hr.mono (j := 1) (by decide)) hgd (D_is_integer T) rfl rfl (sp rfl) (bt rfl) (SA.cons (sp rfl) (SE.varN n_ratio_denominator) (SA.nil))))))))) (SB.cons (SS.no) (SB.nil)) (SB.nil)) (SB.cons (SS.ite (ST.cmppN (ov_eq hu) rfl n_ratio_denominator (SE.v (SE.int))) (SB.cons (SS.no) (SB.nil)) (SB.nil)) (SB.cons (SS.setN nd_ratio l_ratio_common rfl rfl (SE.bn ov_mul (Dn.SE.callP tk (hr.mono (j := 1) (by decide)) hgd (D_common_divisor T) rfl rfl (sp rfl) (bt rfl) (SA.cons (sp rfl) (SE.varN n_ratio_numerator) (SA.cons (sp rfl) (SE.varN n_ratio_denominator) (SA.nil)))) (SE.v (SE.ife (ST.cmppN ov_gt rfl n_ratio_denominator (SE.v (SE.int))) (SE.int) (SE.un uv_neg (SE.v (SE.int))))))) (SB.cons (SS.ret (SE.tup (SA.cons (sp rfl) (SE.bpN ov_div n_ratio_numerator (SV.pkN n_ratio_common)) (SA.cons (sp rfl) (SE.bpN ov_div n_ratio_denominator (SV.pkN n_ratio_common)) (SA.nil))))) (SB.nil))))
theorem D_ratio_1 (T : Hd.TT K mg h) : Def1 P w K mg base "ratio" 3 ["numerator", "denominator"] [V.int 1] (spF K Cd.m_ratio Cd.F_ratio) :=
  def2 (dv := [V.int 1]) T.tb (Hd.g_ratio T) 5 rfl rfl rfl rfl 1 0 (List.cons_ne_nil _ _) rfl (fun _ _ _ _ _ _ _ us its hu hi => match us, its, hu, hi with | [_], [_], _, _ => ⟨_, rfl, rfl⟩) fun fd F => fn_ok F sc_ratio rfl (by decide) (b_ratio T)
theorem D_ratio_2 (T : Hd.TT K mg h) : Def1 P w K mg base "ratio" 3 ["numerator", "denominator"] [] (spF K Cd.m_ratio Cd.F_ratio) :=
  def2 (dv := [V.int 1]) T.tb (Hd.g_ratio T) 5 rfl rfl rfl rfl 2 1 (List.cons_ne_nil _ _) rfl (fun _ _ _ _ _ _ _ us its hu hi => match us, its, hu, hi with | [_, _], [_], _, _ => ⟨_, rfl, rfl⟩) fun fd F => fn_ok F sc_ratio rfl (by decide) (b_ratio T)
abbrev N_minus : List Str := ["first", "second", "one", "two"]
theorem nd_minus : (N_minus).Nodup := by decide
theorem sc_minus : FnScope N_minus ["first", "second"] (defScope Hd.s_minus) := ⟨rfl, rfl, rfl, by decide +kernel, rfl, by decide +kernel, by decide +kernel⟩
theorem n_minus_first : Nm N_minus (defScope Hd.s_minus) 0 "first" := ⟨rfl, by decide +kernel, by decide +kernel, by decide +kernel⟩
theorem n_minus_second : Nm N_minus (defScope Hd.s_minus) 1 "second" := ⟨rfl, by decide +kernel, by decide +kernel, by decide +kernel⟩
theorem n_minus_one : Nm N_minus (defScope Hd.s_minus) 2 "one" := ⟨rfl, by decide +kernel, by decide +kernel, by decide +kernel⟩
theorem n_minus_two : Nm N_minus (defScope Hd.s_minus) 3 "two" := ⟨rfl, by decide +kernel, by decide +kernel, by decide +kernel⟩
theorem b_minus (T : Hd.TT K mg h) : BodyD P w K mg base N_minus "minus" (defScope Hd.s_minus) (defBody Hd.s_minus) (He.ga K "minus") 8 Cd.c_minus := fun cdv A outer s H E hr hgd tk po =>
  have hu := Room.units hr
  SB.cons (SS.par2 rfl nd_minus rfl rfl (by decide) rfl rfl rfl rfl (sp rfl) (sp rfl) (Dn.SE.callP tk (hr.mono (j := 7) (by decide)) hgd (D_as_ratio T) rfl rfl (sp rfl) (bt rfl) (SA.cons (sp rfl) (SE.varN n_minus_first) (SA.nil))) (Dn.SE.callP tk (hr.mono (j := 7) (by decide)) hgd (D_as_ratio T) rfl rfl (sp rfl) (bt rfl) (SA.cons (sp rfl) (SE.varN n_minus_second) (SA.nil)))) (SB.cons (SS.ret (Dn.SE.callP tk (hr.mono (j := 3) (by decide)) hgd (D_ratio_2 T) rfl rfl (sp rfl) (bt rfl) (SA.cons (sp rfl) (SE.bn ov_sub (SE.bn ov_mul (SE.ixpN hu (fun _ _ => rfl) n_minus_one (SE.v (SE.int))) (SE.v (SE.ixpN hu (fun _ _ => rfl) n_minus_two (SE.v (SE.int))))) (SE.v (SE.bn ov_mul (SE.ixpN hu (fun _ _ => rfl) n_minus_two (SE.v (SE.int))) (SE.v (SE.ixpN hu (fun _ _ => rfl) n_minus_one (SE.v (SE.int))))))) (SA.cons (sp rfl) (SE.bn ov_mul (SE.ixpN hu (fun _ _ => rfl) n_minus_one (SE.v (SE.int))) (SE.v (SE.ixpN hu (fun _ _ => rfl) n_minus_two (SE.v (SE.int))))) (SA.nil))))) (SB.nil))
theorem D_minus (T : Hd.TT K mg h) : Def1 P w K mg base "minus" 9 ["first", "second"] [] (spF K Cd.m_minus Cd.F_minus) :=
  def1 T.tb (Hd.g_minus T) 8 rfl rfl rfl rfl (fun _ _ _ _ _ _ us hl => match us, hl with | [_, _], _ => rfl) fun fd F => fn_ok F sc_minus rfl (by decide) (b_minus T)
abbrev N_compare : List Str := ["first", "second", "apart"]
theorem nd_compare : (N_compare).Nodup := by decide
theorem sc_compare : FnScope N_compare ["first", "second"] (defScope Hd.s_compare) := ⟨rfl, rfl, rfl, by decide +kernel, rfl, by decide +kernel, by decide +kernel⟩
theorem n_compare_first : Nm N_compare (defScope Hd.s_compare) 0 "first" := ⟨rfl, by decide +kernel, by decide +kernel, by decide +kernel⟩
theorem n_compare_second : Nm N_compare (defScope Hd.s_compare) 1 "second" := ⟨rfl, by decide +kernel, by decide +kernel, by decide +kernel⟩
theorem n_compare_apart : Nm N_compare (defScope Hd.s_compare) 2 "apart" := ⟨rfl, by decide +kernel, by decide +kernel, by decide +kernel⟩
theorem l_compare_apart : Lc N_compare (defScope Hd.s_compare) 2 "apart" := ⟨rfl, by decide +kernel⟩
theorem b_compare (T : Hd.TT K mg h) : BodyD P w K mg base N_compare "compare" (defScope Hd.s_compare) (defBody Hd.s_compare) (He.ga K "compare") 10 Cd.c_compare := fun cdv A outer s H E hr hgd tk po =>
  have hu := Room.units hr
  SB.cons (SS.setN nd_compare l_compare_apart rfl rfl (SE.ix hu (fun _ _ => rfl) (Dn.SE.callP tk (hr.mono (j := 9) (by decide)) hgd (D_minus T) rfl rfl (sp rfl) (bt rfl) (SA.cons (sp rfl) (SE.varN n_compare_first) (SA.cons (sp rfl) (SE.varN n_compare_second) (SA.nil)))) (SE.v (SE.int)))) (SB.cons (SS.ret (SE.bn ov_sub (SE.cmppN ov_gt rfl n_compare_apart (SE.v (SE.int))) (SE.v (SE.cmppN ov_lt rfl n_compare_apart (SE.v (SE.int)))))) (SB.nil))
theorem D_compare (T : Hd.TT K mg h) : Def1 P w K mg base "compare" 11 ["first", "second"] [] (spF K Cd.m_compare Cd.F_compare) :=
  def1 T.tb (Hd.g_compare T) 11 rfl rfl rfl rfl (fun _ _ _ _ _ _ us hl => match us, hl with | [_, _], _ => rfl) fun fd F => fn_ok F sc_compare rfl (by decide) (b_compare T)
end
end Wk

namespace Wk
open PySem PySem.Spec PyProof.Rows L2 Dn Cd
section
variable {P : Program} {w : World} {K : PySem.W.Frag} {mg : Str → Option Value} {base h : Heap}
abbrev N_is_name : List Str := ["value", "sign"]
theorem nd_is_name : (N_is_name).Nodup := by decide
theorem sc_is_name : FnScope N_is_name ["value"] (defScope Hd.s_is_name) := ⟨rfl, rfl, rfl, by decide +kernel, rfl, by decide +kernel, by decide +kernel⟩
theorem n_is_name_value : Nm N_is_name (defScope Hd.s_is_name) 0 "value" := ⟨rfl, by decide +kernel, by decide +kernel, by decide +kernel⟩
theorem b_is_name (T : Hd.TT K mg h) : BodyD P w K mg base N_is_name "is_name" (defScope Hd.s_is_name) (defBody Hd.s_is_name) (He.ga K "is_name") 0 Cd.c_is_name := fun cdv A outer s H E hr hgd tk po =>
  have hu := Room.units hr
  SB.cons (SS.ite (ST.wp (SW.or (ST.not (ST.tru (fun _ => rfl) (SE.v (SE.isa (Hd.b_isinstance T) (Hd.b_str T) (by decide +kernel) rfl rfl (by decide) rfl (sp rfl) (sp rfl) (bt rfl) (SV.pkN n_is_name_value))))) (SW.or1 (ST.not (ST.chain ov_le ov_le (by with_unfolding_all rfl) (SE.int) (SE.callB1 cv_len (Hd.b_len T) (by decide +kernel) rfl (by decide) rfl (sp rfl) (bt rfl) (SV.pkN n_is_name_value)) (SE.v (SE.int))))))) (SB.cons (SS.ret (SE.bl)) (SB.nil)) (SB.nil)) (SB.cons (SS.ret (SE.and (SE.cmpn (ov_in hu) rfl (SE.ixpN hu (fun _ _ => rfl) n_is_name_value (SE.v (SE.int))) (SE.v (SE.globS (Hd.t_LETTERS T) rfl rfl))) (SE.one (SE.callB1 (cv_all rfl) (Hd.b_all T) (by decide +kernel) rfl (by decide) rfl (sp rfl) (bt rfl) (SE.v (SE.lc (own := [("sign", 1)]) rfl nd_is_name (show BlkOk N_is_name (defScope Hd.s_is_name) _ _ from ⟨rfl, by decide +kernel, by decide +kernel, by decide +kernel, by decide +kernel⟩) (by decide) (fun _ => rfl) (SI.data (SE.varN n_is_name_value)) (fun _ _ _ _ _ => SGw.nameN nd_is_name ⟨rfl, rfl⟩ rfl (by decide)) (fun _ _ _ _ _ => STs.nil) (fun _ _ _ _ _ => SE.cmppN (ov_in hu) rfl ⟨rfl, rfl, rfl, rfl⟩ (SE.v (SE.globS (Hd.t_SIGNS T) rfl rfl))))))))) (SB.nil))
theorem D_is_name (T : Hd.TT K mg h) : Def1 P w K mg base "is_name" 1 ["value"] [] (spF K Cd.m_is_name Cd.F_is_name) :=
  def1 T.tb (Hd.g_is_name T) 14 rfl rfl rfl rfl (fun _ _ _ _ _ _ us hl => match us, hl with | [_], _ => rfl) fun fd F => fn_ok F sc_is_name rfl (by decide) (b_is_name T)
abbrev N_is_piece : List Str := ["value"]
theorem nd_is_piece : (N_is_piece).Nodup := by decide
theorem sc_is_piece : FnScope N_is_piece ["value"] (defScope Hd.s_is_piece) := ⟨rfl, rfl, rfl, by decide +kernel, rfl, by decide +kernel, by decide +kernel⟩
theorem n_is_piece_value : Nm N_is_piece (defScope Hd.s_is_piece) 0 "value" := ⟨rfl, by decide +kernel, by decide +kernel, by decide +kernel⟩
theorem b_is_piece (T : Hd.TT K mg h) : BodyD P w K mg base N_is_piece "is_piece" (defScope Hd.s_is_piece) (defBody Hd.s_is_piece) (He.ga K "is_piece") 12 Cd.c_is_piece := fun cdv A outer s H E hr hgd tk po =>
  have hu := Room.units hr
  SB.cons (SS.ite (ST.wp (SW.or (ST.not (ST.tru (fun _ => rfl) (SE.v (SE.isa (Hd.b_isinstance T) (Hd.b_tuple T) (by decide +kernel) rfl rfl (by decide) rfl (sp rfl) (sp rfl) (bt rfl) (SV.pkN n_is_piece_value))))) (SW.or1 (ST.cmpn (ov_ne hu) rfl (SE.callB1 cv_len (Hd.b_len T) (by decide +kernel) rfl (by decide) rfl (sp rfl) (bt rfl) (SV.pkN n_is_piece_value)) (SE.v (SE.int)))))) (SB.cons (SS.ret (SE.bl)) (SB.nil)) (SB.nil)) (SB.cons (SS.ret (SE.and (Dn.SE.callP tk (hr.mono (j := 5) (by decide)) hgd (D_is_number T) rfl rfl (sp rfl) (bt rfl) (SA.cons (sp rfl) (SE.ixpN hu (fun _ _ => rfl) n_is_piece_value (SE.v (SE.int))) (SA.nil))) (SE.and (Dn.SE.callP tk (hr.mono (j := 5) (by decide)) hgd (D_is_number T) rfl rfl (sp rfl) (bt rfl) (SA.cons (sp rfl) (SE.ixpN hu (fun _ _ => rfl) n_is_piece_value (SE.v (SE.int))) (SA.nil))) (SE.one (SE.cmpn ov_ge rfl (Dn.SE.callP tk (hr.mono (j := 11) (by decide)) hgd (D_compare T) rfl rfl (sp rfl) (bt rfl) (SA.cons (sp rfl) (SE.ixpN hu (fun _ _ => rfl) n_is_piece_value (SE.v (SE.int))) (SA.cons (sp rfl) (SE.int) (SA.nil)))) (SE.v (SE.int))))))) (SB.nil))
theorem D_is_piece (T : Hd.TT K mg h) : Def1 P w K mg base "is_piece" 13 ["value"] [] (spF K Cd.m_is_piece Cd.F_is_piece) :=
  def1 T.tb (Hd.g_is_piece T) 16 rfl rfl rfl rfl (fun _ _ _ _ _ _ us hl => match us, hl with | [_], _ => rfl) fun fd F => fn_ok F sc_is_piece rfl (by decide) (b_is_piece T)
abbrev N_are_pieces : List Str := ["value", "piece", "at"]
theorem nd_are_pieces : (N_are_pieces).Nodup := by decide
theorem sc_are_pieces : FnScope N_are_pieces ["value"] (defScope Hd.s_are_pieces) := ⟨rfl, rfl, rfl, by decide +kernel, rfl, by decide +kernel, by decide +kernel⟩
theorem n_are_pieces_value : Nm N_are_pieces (defScope Hd.s_are_pieces) 0 "value" := ⟨rfl, by decide +kernel, by decide +kernel, by decide +kernel⟩
theorem b_are_pieces (T : Hd.TT K mg h) : BodyD P w K mg base N_are_pieces "are_pieces" (defScope Hd.s_are_pieces) (defBody Hd.s_are_pieces) (He.ga K "are_pieces") 14 Cd.c_are_pieces := fun cdv A outer s H E hr hgd tk po =>
  have hu := Room.units hr
  SB.cons (SS.ite (ST.wp (SW.or (ST.not (ST.tru (fun _ => rfl) (SE.v (SE.isaT (Hd.b_isinstance T) rfl (by decide) (sp rfl) (sp rfl) (bt rfl) (.cons (Hd.b_list T) (by decide +kernel) rfl (by decide) rfl (sp rfl) (.cons (Hd.b_tuple T) (by decide +kernel) rfl (by decide) rfl (sp rfl) (TyNames.nil))) (SV.pkN n_are_pieces_value))))) (SW.or1 (ST.not (ST.chain ov_le ov_le (by with_unfolding_all rfl) (SE.int) (SE.callB1 cv_len (Hd.b_len T) (by decide +kernel) rfl (by decide) rfl (sp rfl) (bt rfl) (SV.pkN n_are_pieces_value)) (SE.v (SE.globI (Hd.i_MAX_PIECES T) rfl rfl))))))) (SB.cons (SS.ret (SE.bl)) (SB.nil)) (SB.nil)) (SB.cons (SS.ite (ST.wp (SW.or (ST.not (ST.tru (fun _ => rfl) (SE.v (SE.callB1 (cv_all rfl) (Hd.b_all T) (by decide +kernel) rfl (by decide) rfl (sp rfl) (bt rfl) (SE.v (SE.lc (own := [("piece", 1)]) rfl nd_are_pieces (show BlkOk N_are_pieces (defScope Hd.s_are_pieces) _ _ from ⟨rfl, by decide +kernel, by decide +kernel, by decide +kernel, by decide +kernel⟩) (by decide) (fun _ => rfl) (SI.data (SE.varN n_are_pieces_value)) (fun _ _ _ _ _ => SGw.nameN nd_are_pieces ⟨rfl, rfl⟩ rfl (by decide)) (fun _ _ _ _ _ => STs.nil) (fun _ _ _ _ _ => Dn.SE.callP takesF (hr.mono (j := 13) (by decide)) hgd (D_is_piece T) rfl rfl (sp rfl) (bt rfl) (SA.cons (sp rfl) (SE.varN ⟨rfl, rfl, rfl, rfl⟩) (SA.nil))))))))) (SW.or1 (ST.cmpn (ov_ne hu) rfl (Dn.SE.callP tk (hr.mono (j := 11) (by decide)) hgd (D_compare T) rfl rfl (sp rfl) (bt rfl) (SA.cons (sp rfl) (SE.ix hu (fun _ _ => rfl) (SE.ixpN hu (fun _ _ => rfl) n_are_pieces_value (SE.v (SE.int))) (SE.v (SE.int))) (SA.cons (sp rfl) (SE.int) (SA.nil)))) (SE.v (SE.int)))))) (SB.cons (SS.ret (SE.bl)) (SB.nil)) (SB.nil)) (SB.cons (SS.ret (SE.callB1 (cv_all rfl) (Hd.b_all T) (by decide +kernel) rfl (by decide) rfl (sp rfl) (bt rfl) (SE.v (SE.lc (own := [("at", 2)]) rfl nd_are_pieces (show BlkOk N_are_pieces (defScope Hd.s_are_pieces) _ _ from ⟨rfl, by decide +kernel, by decide +kernel, by decide +kernel, by decide +kernel⟩) (by decide) (fun _ => rfl) (SI.rng1 rfl (Hd.b_range T) (sp rfl) (SA.cons (sp rfl) (SE.bn ov_sub (SE.callB1 cv_len (Hd.b_len T) (by decide +kernel) rfl (by decide) rfl (sp rfl) (bt rfl) (SV.pkN n_are_pieces_value)) (SE.v (SE.int))) (SA.nil))) (fun _ _ _ _ _ => SGw.nameN nd_are_pieces ⟨rfl, rfl⟩ rfl (by decide)) (fun _ _ _ _ _ => STs.nil) (fun _ _ _ _ _ => SE.cmpn ov_lt rfl (Dn.SE.callP takesF (hr.mono (j := 11) (by decide)) hgd (D_compare T) rfl rfl (sp rfl) (bt rfl) (SA.cons (sp rfl) (SE.ix hu (fun _ _ => rfl) (SE.ixpN hu (fun _ _ => rfl) ⟨rfl, rfl, rfl, rfl⟩ (SV.pkN ⟨rfl, rfl, rfl, rfl⟩)) (SE.v (SE.int))) (SA.cons (sp rfl) (SE.ix hu (fun _ _ => rfl) (SE.ixpN hu (fun _ _ => rfl) ⟨rfl, rfl, rfl, rfl⟩ (SE.v (SE.bpN ov_add ⟨rfl, rfl, rfl, rfl⟩ (SE.v (SE.int))))) (SE.v (SE.int))) (SA.nil)))) (SE.v (SE.int))))))) (SB.nil)))
theorem D_are_pieces (T : Hd.TT K mg h) : Def1 P w K mg base "are_pieces" 15 ["value"] [] (spF K Cd.m_are_pieces Cd.F_are_pieces) :=
  def1 T.tb (Hd.g_are_pieces T) 17 rfl rfl rfl rfl (fun _ _ _ _ _ _ us hl => match us, hl with | [_], _ => rfl) fun fd F => fn_ok F sc_are_pieces rfl (by decide) (b_are_pieces T)
abbrev N_is_runner : List Str := ["value"]
theorem nd_is_runner : (N_is_runner).Nodup := by decide
theorem sc_is_runner : FnScope N_is_runner ["value"] (defScope Hd.s_is_runner) := ⟨rfl, rfl, rfl, by decide +kernel, rfl, by decide +kernel, by decide +kernel⟩
theorem n_is_runner_value : Nm N_is_runner (defScope Hd.s_is_runner) 0 "value" := ⟨rfl, by decide +kernel, by decide +kernel, by decide +kernel⟩
theorem b_is_runner (T : Hd.TT K mg h) : BodyD P w K mg base N_is_runner "is_runner" (defScope Hd.s_is_runner) (defBody Hd.s_is_runner) (He.ga K "is_runner") 16 Cd.c_is_runner := fun cdv A outer s H E hr hgd tk po =>
  have hu := Room.units hr
  SB.cons (SS.ret (SE.and (SE.isa (Hd.b_isinstance T) (Hd.b_tuple T) (by decide +kernel) rfl rfl (by decide) rfl (sp rfl) (sp rfl) (bt rfl) (SV.pkN n_is_runner_value)) (SE.and (SE.cmpn (ov_eq hu) rfl (SE.callB1 cv_len (Hd.b_len T) (by decide +kernel) rfl (by decide) rfl (sp rfl) (bt rfl) (SV.pkN n_is_runner_value)) (SE.v (SE.int))) (SE.and (Dn.SE.callP tk (hr.mono (j := 5) (by decide)) hgd (D_is_number T) rfl rfl (sp rfl) (bt rfl) (SA.cons (sp rfl) (SE.ixpN hu (fun _ _ => rfl) n_is_runner_value (SE.v (SE.int))) (SA.nil))) (SE.one (Dn.SE.callP tk (hr.mono (j := 15) (by decide)) hgd (D_are_pieces T) rfl rfl (sp rfl) (bt rfl) (SA.cons (sp rfl) (SE.ixpN hu (fun _ _ => rfl) n_is_runner_value (SE.v (SE.int))) (SA.nil)))))))) (SB.nil)
theorem D_is_runner (T : Hd.TT K mg h) : Def1 P w K mg base "is_runner" 17 ["value"] [] (spF K Cd.m_is_runner Cd.F_is_runner) :=
  def1 T.tb (Hd.g_is_runner T) 18 rfl rfl rfl rfl (fun _ _ _ _ _ _ us hl => match us, hl with | [_], _ => rfl) fun fd F => fn_ok F sc_is_runner rfl (by decide) (b_is_runner T)
abbrev N_divided : List Str := ["first", "second", "one", "two"]
theorem nd_divided : (N_divided).Nodup := by decide
theorem sc_divided : FnScope N_divided ["first", "second"] (defScope Hd.s_divided) := ⟨rfl, rfl, rfl, by decide +kernel, rfl, by decide +kernel, by decide +kernel⟩
theorem n_divided_first : Nm N_divided (defScope Hd.s_divided) 0 "first" := ⟨rfl, by decide +kernel, by decide +kernel, by decide +kernel⟩
theorem n_divided_second : Nm N_divided (defScope Hd.s_divided) 1 "second" := ⟨rfl, by decide +kernel, by decide +kernel, by decide +kernel⟩
theorem n_divided_one : Nm N_divided (defScope Hd.s_divided) 2 "one" := ⟨rfl, by decide +kernel, by decide +kernel, by decide +kernel⟩
theorem n_divided_two : Nm N_divided (defScope Hd.s_divided) 3 "two" := ⟨rfl, by decide +kernel, by decide +kernel, by decide +kernel⟩
theorem b_divided (T : Hd.TT K mg h) : BodyD P w K mg base N_divided "divided" (defScope Hd.s_divided) (defBody Hd.s_divided) (He.ga K "divided") 8 Cd.c_divided := fun cdv A outer s H E hr hgd tk po =>
  have hu := Room.units hr
  SB.cons (SS.par2 rfl nd_divided rfl rfl (by decide) rfl rfl rfl rfl (sp rfl) (sp rfl) (Dn.SE.callP tk (hr.mono (j := 7) (by decide)) hgd (D_as_ratio T) rfl rfl (sp rfl) (bt rfl) (SA.cons (sp rfl) (SE.varN n_divided_first) (SA.nil))) (Dn.SE.callP tk (hr.mono (j := 7) (by decide)) hgd (D_as_ratio T) rfl rfl (sp rfl) (bt rfl) (SA.cons (sp rfl) (SE.varN n_divided_second) (SA.nil)))) (SB.cons (SS.ret (Dn.SE.callP tk (hr.mono (j := 3) (by decide)) hgd (D_ratio_2 T) rfl rfl (sp rfl) (bt rfl) (SA.cons (sp rfl) (SE.bn ov_mul (SE.ixpN hu (fun _ _ => rfl) n_divided_one (SE.v (SE.int))) (SE.v (SE.ixpN hu (fun _ _ => rfl) n_divided_two (SE.v (SE.int))))) (SA.cons (sp rfl) (SE.bn ov_mul (SE.ixpN hu (fun _ _ => rfl) n_divided_one (SE.v (SE.int))) (SE.v (SE.ixpN hu (fun _ _ => rfl) n_divided_two (SE.v (SE.int))))) (SA.nil))))) (SB.nil))
theorem D_divided (T : Hd.TT K mg h) : Def1 P w K mg base "divided" 9 ["first", "second"] [] (spF K Cd.m_divided Cd.F_divided) :=
  def1 T.tb (Hd.g_divided T) 10 rfl rfl rfl rfl (fun _ _ _ _ _ _ us hl => match us, hl with | [_, _], _ => rfl) fun fd F => fn_ok F sc_divided rfl (by decide) (b_divided T)
abbrev N_floor_of : List Str := ["value", "one"]
theorem nd_floor_of : (N_floor_of).Nodup := by decide
theorem sc_floor_of : FnScope N_floor_of ["value"] (defScope Hd.s_floor_of) := ⟨rfl, rfl, rfl, by decide +kernel, rfl, by decide +kernel, by decide +kernel⟩
theorem n_floor_of_value : Nm N_floor_of (defScope Hd.s_floor_of) 0 "value" := ⟨rfl, by decide +kernel, by decide +kernel, by decide +kernel⟩
theorem n_floor_of_one : Nm N_floor_of (defScope Hd.s_floor_of) 1 "one" := ⟨rfl, by decide +kernel, by decide +kernel, by decide +kernel⟩
theorem l_floor_of_one : Lc N_floor_of (defScope Hd.s_floor_of) 1 "one" := ⟨rfl, by decide +kernel⟩
theorem b_floor_of (T : Hd.TT K mg h) : BodyD P w K mg base N_floor_of "floor_of" (defScope Hd.s_floor_of) (defBody Hd.s_floor_of) (He.ga K "floor_of") 8 Cd.c_floor_of := fun cdv A outer s H E hr hgd tk po =>
  have hu := Room.units hr
  SB.cons (SS.setN nd_floor_of l_floor_of_one rfl rfl (Dn.SE.callP tk (hr.mono (j := 7) (by decide)) hgd (D_as_ratio T) rfl rfl (sp rfl) (bt rfl) (SA.cons (sp rfl) (SE.varN n_floor_of_value) (SA.nil)))) (SB.cons (SS.ret (SE.bn ov_div (SE.ixpN hu (fun _ _ => rfl) n_floor_of_one (SE.v (SE.int))) (SE.v (SE.ixpN hu (fun _ _ => rfl) n_floor_of_one (SE.v (SE.int)))))) (SB.nil))
theorem D_floor_of (T : Hd.TT K mg h) : Def1 P w K mg base "floor_of" 9 ["value"] [] (spF K Cd.m_floor_of Cd.F_floor_of) :=
  def1 T.tb (Hd.g_floor_of T) 12 rfl rfl rfl rfl (fun _ _ _ _ _ _ us hl => match us, hl with | [_], _ => rfl) fun fd F => fn_ok F sc_floor_of rfl (by decide) (b_floor_of T)
end
end Wk

namespace Wk
open PySem PySem.Spec PyProof.Rows L2 Dn Cd
section
variable {P : Program} {w : World} {K : PySem.W.Frag} {mg : Str → Option Value} {base h : Heap}
abbrev N_times : List Str := ["first", "second", "one", "two"]
theorem nd_times : (N_times).Nodup := by decide
theorem sc_times : FnScope N_times ["first", "second"] (defScope Hd.s_times) := ⟨rfl, rfl, rfl, by decide +kernel, rfl, by decide +kernel, by decide +kernel⟩
theorem n_times_first : Nm N_times (defScope Hd.s_times) 0 "first" := ⟨rfl, by decide +kernel, by decide +kernel, by decide +kernel⟩
theorem n_times_second : Nm N_times (defScope Hd.s_times) 1 "second" := ⟨rfl, by decide +kernel, by decide +kernel, by decide +kernel⟩
theorem n_times_one : Nm N_times (defScope Hd.s_times) 2 "one" := ⟨rfl, by decide +kernel, by decide +kernel, by decide +kernel⟩
theorem n_times_two : Nm N_times (defScope Hd.s_times) 3 "two" := ⟨rfl, by decide +kernel, by decide +kernel, by decide +kernel⟩
theorem b_times (T : Hd.TT K mg h) : BodyD P w K mg base N_times "times" (defScope Hd.s_times) (defBody Hd.s_times) (He.ga K "times") 8 Cd.c_times := fun cdv A outer s H E hr hgd tk po =>
  have hu := Room.units hr
  SB.cons (SS.par2 rfl nd_times rfl rfl (by decide) rfl rfl rfl rfl (sp rfl) (sp rfl) (Dn.SE.callP tk (hr.mono (j := 7) (by decide)) hgd (D_as_ratio T) rfl rfl (sp rfl) (bt rfl) (SA.cons (sp rfl) (SE.varN n_times_first) (SA.nil))) (Dn.SE.callP tk (hr.mono (j := 7) (by decide)) hgd (D_as_ratio T) rfl rfl (sp rfl) (bt rfl) (SA.cons (sp rfl) (SE.varN n_times_second) (SA.nil)))) (SB.cons (SS.ret (Dn.SE.callP tk (hr.mono (j := 3) (by decide)) hgd (D_ratio_2 T) rfl rfl (sp rfl) (bt rfl) (SA.cons (sp rfl) (SE.bn ov_mul (SE.ixpN hu (fun _ _ => rfl) n_times_one (SE.v (SE.int))) (SE.v (SE.ixpN hu (fun _ _ => rfl) n_times_two (SE.v (SE.int))))) (SA.cons (sp rfl) (SE.bn ov_mul (SE.ixpN hu (fun _ _ => rfl) n_times_one (SE.v (SE.int))) (SE.v (SE.ixpN hu (fun _ _ => rfl) n_times_two (SE.v (SE.int))))) (SA.nil))))) (SB.nil))
theorem D_times (T : Hd.TT K mg h) : Def1 P w K mg base "times" 9 ["first", "second"] [] (spF K Cd.m_times Cd.F_times) :=
  def1 T.tb (Hd.g_times T) 9 rfl rfl rfl rfl (fun _ _ _ _ _ _ us hl => match us, hl with | [_, _], _ => rfl) fun fd F => fn_ok F sc_times rfl (by decide) (b_times T)
abbrev N_remainder : List Str := ["value", "modulus", "one", "two"]
theorem nd_remainder : (N_remainder).Nodup := by decide
theorem sc_remainder : FnScope N_remainder ["value", "modulus"] (defScope Hd.s_remainder) := ⟨rfl, rfl, rfl, by decide +kernel, rfl, by decide +kernel, by decide +kernel⟩
theorem n_remainder_value : Nm N_remainder (defScope Hd.s_remainder) 0 "value" := ⟨rfl, by decide +kernel, by decide +kernel, by decide +kernel⟩
theorem n_remainder_modulus : Nm N_remainder (defScope Hd.s_remainder) 1 "modulus" := ⟨rfl, by decide +kernel, by decide +kernel, by decide +kernel⟩
theorem n_remainder_one : Nm N_remainder (defScope Hd.s_remainder) 2 "one" := ⟨rfl, by decide +kernel, by decide +kernel, by decide +kernel⟩
theorem n_remainder_two : Nm N_remainder (defScope Hd.s_remainder) 3 "two" := ⟨rfl, by decide +kernel, by decide +kernel, by decide +kernel⟩
theorem b_remainder (T : Hd.TT K mg h) : BodyD P w K mg base N_remainder "remainder" (defScope Hd.s_remainder) (defBody Hd.s_remainder) (He.ga K "remainder") 10 Cd.c_remainder := fun cdv A outer s H E hr hgd tk po =>
  have hu := Room.units hr
  SB.cons (SS.par2 rfl nd_remainder rfl rfl (by decide) rfl rfl rfl rfl (sp rfl) (sp rfl) (Dn.SE.callP tk (hr.mono (j := 7) (by decide)) hgd (D_as_ratio T) rfl rfl (sp rfl) (bt rfl) (SA.cons (sp rfl) (SE.varN n_remainder_value) (SA.nil))) (Dn.SE.callP tk (hr.mono (j := 7) (by decide)) hgd (D_as_ratio T) rfl rfl (sp rfl) (bt rfl) (SA.cons (sp rfl) (SE.varN n_remainder_modulus) (SA.nil)))) (SB.cons (SS.ite (ST.cmpn ov_le rfl (SE.ixpN hu (fun _ _ => rfl) n_remainder_two (SE.v (SE.int))) (SE.v (SE.int))) (SB.cons (SS.no) (SB.nil)) (SB.nil)) (SB.cons (SS.ret (Dn.SE.callP tk (hr.mono (j := 9) (by decide)) hgd (D_minus T) rfl rfl (sp rfl) (bt rfl) (SA.cons (sp rfl) (SE.varN n_remainder_one) (SA.cons (sp rfl) (Dn.SE.callP tk (hr.mono (j := 9) (by decide)) hgd (D_times T) rfl rfl (sp rfl) (bt rfl) (SA.cons (sp rfl) (SE.varN n_remainder_two) (SA.cons (sp rfl) (Dn.SE.callP tk (hr.mono (j := 9) (by decide)) hgd (D_floor_of T) rfl rfl (sp rfl) (bt rfl) (SA.cons (sp rfl) (Dn.SE.callP tk (hr.mono (j := 9) (by decide)) hgd (D_divided T) rfl rfl (sp rfl) (bt rfl) (SA.cons (sp rfl) (SE.varN n_remainder_one) (SA.cons (sp rfl) (SE.varN n_remainder_two) (SA.nil)))) (SA.nil))) (SA.nil)))) (SA.nil))))) (SB.nil)))
theorem D_remainder (T : Hd.TT K mg h) : Def1 P w K mg base "remainder" 11 ["value", "modulus"] [] (spF K Cd.m_remainder Cd.F_remainder) :=
  def1 T.tb (Hd.g_remainder T) 13 rfl rfl rfl rfl (fun _ _ _ _ _ _ us hl => match us, hl with | [_, _], _ => rfl) fun fd F => fn_ok F sc_remainder rfl (by decide) (b_remainder T)
abbrev N_Race___init__ : List Str := ["self", "length", "runners", "name", "runner", "start", "pieces", "rows", "time", "speed"]
theorem nd_Race___init__ : (N_Race___init__).Nodup := by decide
theorem sc_Race___init__ : FnScope N_Race___init__ ["self", "length", "runners"] (defScope Hd.s_Race___init__) := ⟨rfl, rfl, rfl, by decide +kernel, rfl, by decide +kernel, by decide +kernel⟩
theorem n_Race___init___self : Nm N_Race___init__ (defScope Hd.s_Race___init__) 0 "self" := ⟨rfl, by decide +kernel, by decide +kernel, by decide +kernel⟩
theorem n_Race___init___length : Nm N_Race___init__ (defScope Hd.s_Race___init__) 1 "length" := ⟨rfl, by decide +kernel, by decide +kernel, by decide +kernel⟩
theorem n_Race___init___runners : Nm N_Race___init__ (defScope Hd.s_Race___init__) 2 "runners" := ⟨rfl, by decide +kernel, by decide +kernel, by decide +kernel⟩
theorem n_Race___init___name : Nm N_Race___init__ (defScope Hd.s_Race___init__) 3 "name" := ⟨rfl, by decide +kernel, by decide +kernel, by decide +kernel⟩
theorem l_Race___init___name : Lc N_Race___init__ (defScope Hd.s_Race___init__) 3 "name" := ⟨rfl, by decide +kernel⟩
theorem n_Race___init___runner : Nm N_Race___init__ (defScope Hd.s_Race___init__) 4 "runner" := ⟨rfl, by decide +kernel, by decide +kernel, by decide +kernel⟩
theorem l_Race___init___runner : Lc N_Race___init__ (defScope Hd.s_Race___init__) 4 "runner" := ⟨rfl, by decide +kernel⟩
theorem n_Race___init___start : Nm N_Race___init__ (defScope Hd.s_Race___init__) 5 "start" := ⟨rfl, by decide +kernel, by decide +kernel, by decide +kernel⟩
theorem l_Race___init___start : Lc N_Race___init__ (defScope Hd.s_Race___init__) 5 "start" := ⟨rfl, by decide +kernel⟩
theorem n_Race___init___pieces : Nm N_Race___init__ (defScope Hd.s_Race___init__) 6 "pieces" := ⟨rfl, by decide +kernel, by decide +kernel, by decide +kernel⟩
theorem l_Race___init___pieces : Lc N_Race___init__ (defScope Hd.s_Race___init__) 6 "pieces" := ⟨rfl, by decide +kernel⟩
theorem n_Race___init___rows : Nm N_Race___init__ (defScope Hd.s_Race___init__) 7 "rows" := ⟨rfl, by decide +kernel, by decide +kernel, by decide +kernel⟩
theorem l_Race___init___rows : Lc N_Race___init__ (defScope Hd.s_Race___init__) 7 "rows" := ⟨rfl, by decide +kernel⟩
theorem b_Race___init___0 (T : Hd.TT K mg h) : BodyD P w K mg base N_Race___init__ "Race.__init__" (defScope Hd.s_Race___init__) (foB (atB (defBody Hd.s_Race___init__) 2)) (He.ma K (He.ga K "Race") "__init__") 18 Cd.c_Race___init___0 := fun cdv A outer s H E hr hgd tk po =>
  have hu := Room.units hr
  SB.cons (SS.ite (ST.wp (SW.or (ST.not (ST.tru (fun _ => rfl) (SE.v (Dn.SE.callP tk (hr.mono (j := 1) (by decide)) hgd (D_is_name T) rfl rfl (sp rfl) (bt rfl) (SA.cons (sp rfl) (SE.varN n_Race___init___name) (SA.nil)))))) (SW.or1 (ST.not (ST.tru (fun _ => rfl) (SE.v (Dn.SE.callP tk (hr.mono (j := 17) (by decide)) hgd (D_is_runner T) rfl rfl (sp rfl) (bt rfl) (SA.cons (sp rfl) (SE.varN n_Race___init___runner) (SA.nil))))))))) (SB.cons (SS.no) (SB.nil)) (SB.nil)) (SB.nil)
theorem b_Race___init___1 (T : Hd.TT K mg h) : BodyD P w K mg base N_Race___init__ "Race.__init__" (defScope Hd.s_Race___init__) (foB (atB (defBody Hd.s_Race___init__) 5)) (He.ma K (He.ga K "Race") "__init__") 18 Cd.c_Race___init___1 := fun cdv A outer s H E hr hgd tk po =>
  have hu := Room.units hr
  SB.cons (SS.asg rfl rfl rfl (SG.tup rfl rfl rfl (SGs.cons (ap rfl) (SG.nameN nd_Race___init__ l_Race___init___start rfl) (SGs.cons (ap rfl) (SG.nameN nd_Race___init__ l_Race___init___pieces rfl) (SGs.nil)))) (SE.ixpN hu (fun _ _ => rfl) n_Race___init___runners (SV.pkN n_Race___init___name))) (SB.cons (SS.setLc (own := [("time", 8), ("speed", 9)]) rfl nd_Race___init__ rfl rfl (sw_true rfl rfl rfl rfl) (show BlkOk N_Race___init__ (defScope Hd.s_Race___init__) _ _ from ⟨rfl, by decide +kernel, by decide +kernel, by decide +kernel, by decide +kernel⟩) (by decide) (fun _ => rfl) (SI.data (SE.varN n_Race___init___pieces)) (fun _ _ _ _ _ => SGw.tup rfl rfl rfl (SGsw.cons (ap rfl) (SGw.nameN nd_Race___init__ ⟨rfl, rfl⟩ rfl (by decide)) (SGsw.cons (ap rfl) (SGw.nameN nd_Race___init__ ⟨rfl, rfl⟩ rfl (by decide)) (SGsw.nil)))) (fun _ _ _ _ _ => STs.nil) (fun _ _ _ _ _ => SE.tup (SA.cons (sp rfl) (Dn.SE.callP takesF (hr.mono (j := 7) (by decide)) hgd (D_as_ratio T) rfl rfl (sp rfl) (bt rfl) (SA.cons (sp rfl) (SE.varN ⟨rfl, rfl, rfl, rfl⟩) (SA.nil))) (SA.cons (sp rfl) (Dn.SE.callP takesF (hr.mono (j := 7) (by decide)) hgd (D_as_ratio T) rfl rfl (sp rfl) (bt rfl) (SA.cons (sp rfl) (SE.varN ⟨rfl, rfl, rfl, rfl⟩) (SA.nil))) (SA.nil))))) (SB.cons (SS.itemQ hu (fun _ => rfl) rfl rfl rfl (SE.tup (SA.cons (sp rfl) (Dn.SE.callP tk (hr.mono (j := 11) (by decide)) hgd (D_remainder T) rfl rfl (sp rfl) (bt rfl) (SA.cons (sp rfl) (SE.varN n_Race___init___start) (SA.cons (sp rfl) (SE.varN n_Race___init___length) (SA.nil)))) (SA.cons (sp rfl) (SE.varN n_Race___init___rows) (SA.nil)))) (SPl.attr (Hd.cls_Race T) (Hd.na_Race_own_runners T) rfl (SPl.nameN n_Race___init___self)) (SQ.pl (SPl.nameN n_Race___init___name))) (SB.nil)))
theorem b_Race___init__ (T : Hd.TT K mg h) : BodyD P w K mg base N_Race___init__ "Race.__init__" (defScope Hd.s_Race___init__) (defBody Hd.s_Race___init__) (He.ma K (He.ga K "Race") "__init__") 18 Cd.c_Race___init__ := fun cdv A outer s H E hr hgd tk po =>
  have hu := Room.units hr
  SB.cons (SS.ite (ST.wp (SW.or (ST.not (ST.tru (fun _ => rfl) (SE.v (Dn.SE.callP tk (hr.mono (j := 5) (by decide)) hgd (D_is_number T) rfl rfl (sp rfl) (bt rfl) (SA.cons (sp rfl) (SE.varN n_Race___init___length) (SA.nil)))))) (SW.or1 (ST.cmpn ov_le rfl (Dn.SE.callP tk (hr.mono (j := 11) (by decide)) hgd (D_compare T) rfl rfl (sp rfl) (bt rfl) (SA.cons (sp rfl) (SE.varN n_Race___init___length) (SA.cons (sp rfl) (SE.int) (SA.nil)))) (SE.v (SE.int)))))) (SB.cons (SS.no) (SB.nil)) (SB.nil)) (SB.cons (SS.ite (ST.wp (SW.or (ST.not (ST.tru (fun _ => rfl) (SE.v (SE.isa (Hd.b_isinstance T) (Hd.b_dict T) (by decide +kernel) rfl rfl (by decide) rfl (sp rfl) (sp rfl) (bt rfl) (SV.pkN n_Race___init___runners))))) (SW.or1 (ST.not (ST.chain ov_le ov_le (by with_unfolding_all rfl) (SE.int) (SE.callB1 cv_len (Hd.b_len T) (by decide +kernel) rfl (by decide) rfl (sp rfl) (bt rfl) (SV.pkN n_Race___init___runners)) (SE.v (SE.globI (Hd.i_MAX_RUNNERS T) rfl rfl))))))) (SB.cons (SS.no) (SB.nil)) (SB.nil)) (SB.cons (SS.for po rfl (fun _ => rfl) (SI.items rfl rfl (SE.varN n_Race___init___runners)) (SG.tup rfl rfl rfl (SGs.cons (ap rfl) (SG.nameN nd_Race___init__ l_Race___init___name rfl) (SGs.cons (ap rfl) (SG.nameN nd_Race___init__ l_Race___init___runner rfl) (SGs.nil)))) ((b_Race___init___0 T cdv A outer s H E hr hgd tk po))) (SB.cons (SS.fld (Hd.cls_Race T) (Hd.na_Race_own_length T) rfl (Dn.SE.callP tk (hr.mono (j := 7) (by decide)) hgd (D_as_ratio T) rfl rfl (sp rfl) (bt rfl) (SA.cons (sp rfl) (SE.varN n_Race___init___length) (SA.nil))) (SPl.nameN n_Race___init___self)) (SB.cons (SS.fld (Hd.cls_Race T) (Hd.na_Race_own_runners T) rfl (SE.dnewK) (SPl.nameN n_Race___init___self)) (SB.cons (SS.for po rfl (fun _ => rfl) (SI.data (SE.callB1 (cv_sorted rfl) (Hd.b_sorted T) (by decide +kernel) rfl (by decide) rfl (sp rfl) (bt rfl) (SV.pkN n_Race___init___runners))) (SG.nameN nd_Race___init__ l_Race___init___name rfl) ((b_Race___init___1 T cdv A outer s H E hr hgd tk po))) (SB.cons (SS.fld (Hd.cls_Race T) (Hd.na_Race_own_parts T) rfl (SE.tup (SA.cons (sp rfl) (SE.pl (SPl.attr (Hd.cls_Race T) (Hd.na_Race_own_length T) rfl (SPl.nameN n_Race___init___self))) (SA.cons (sp rfl) (SE.pl (SPl.attr (Hd.cls_Race T) (Hd.na_Race_own_runners T) rfl (SPl.nameN n_Race___init___self))) (SA.nil)))) (SPl.nameN n_Race___init___self)) (SB.nil)))))))
theorem D_Race___init__ (T : Hd.TT K mg h) : DefI P w K mg base "Race" 19 ["self", "length", "runners"] [] (spF K Cd.m_Race___init__ Cd.F_Race___init__) :=
  defi T.tb (Hd.g_Race T) (Hd.mkr_Race T) 19 rfl rfl rfl rfl (fun _ _ _ _ _ _ us hl => match us, hl with | [_, _, _], _ => rfl) fun fd F => fn_ok F sc_Race___init__ rfl (by decide) (b_Race___init__ T)
abbrev N_Race_length : List Str := ["self"]
theorem nd_Race_length : (N_Race_length).Nodup := by decide
theorem sc_Race_length : FnScope N_Race_length ["self"] (defScope Hd.s_Race_length) := ⟨rfl, rfl, rfl, by decide +kernel, rfl, by decide +kernel, by decide +kernel⟩
theorem n_Race_length_self : Nm N_Race_length (defScope Hd.s_Race_length) 0 "self" := ⟨rfl, by decide +kernel, by decide +kernel, by decide +kernel⟩
theorem b_Race_length (T : Hd.TT K mg h) {f : Addr} : BodyD P w K mg base N_Race_length "Race.length" (defScope Hd.s_Race_length) (defBody Hd.s_Race_length) (f) 0 Cd.c_Race_length := fun cdv A outer s H E hr hgd tk po =>
  have hu := Room.units hr
  SB.cons (SS.ret (SE.pl (SPl.attr (Hd.cls_Race T) (Hd.na_Race_own_length T) rfl (SPl.nameN n_Race_length_self)))) (SB.nil)
theorem D_Race_length (T : Hd.TT K mg h) : DefP P w K mg base "Race" "length" 1 ["self"] (spF K Cd.m_Race_length Cd.F_Race_length) :=
  defp (p := ⟨"Race", "length", Hd.d_Race_length⟩) T (Hd.cls_Race T) 0 rfl rfl rfl (fun _ _ _ _ _ _ us hl => match us, hl with | [_], _ => rfl) fun f fd F => fn_ok F sc_Race_length rfl (by decide) (b_Race_length T)
abbrev N_Race_start : List Str := ["self", "name"]
theorem nd_Race_start : (N_Race_start).Nodup := by decide
theorem sc_Race_start : FnScope N_Race_start ["self", "name"] (defScope Hd.s_Race_start) := ⟨rfl, rfl, rfl, by decide +kernel, rfl, by decide +kernel, by decide +kernel⟩
theorem n_Race_start_self : Nm N_Race_start (defScope Hd.s_Race_start) 0 "self" := ⟨rfl, by decide +kernel, by decide +kernel, by decide +kernel⟩
theorem n_Race_start_name : Nm N_Race_start (defScope Hd.s_Race_start) 1 "name" := ⟨rfl, by decide +kernel, by decide +kernel, by decide +kernel⟩
theorem b_Race_start (T : Hd.TT K mg h) : BodyD P w K mg base N_Race_start "Race.start" (defScope Hd.s_Race_start) (defBody Hd.s_Race_start) (He.ma K (He.ga K "Race") "start") 4 Cd.c_Race_start := fun cdv A outer s H E hr hgd tk po =>
  have hu := Room.units hr
  SB.cons (SS.ret (SE.ix hu (fun _ _ => rfl) (SE.methP tk (hr.mono (j := 3) (by decide)) hgd (D_Race_runner T) (sp rfl) (bt rfl) rfl (SE.varN n_Race_start_self) (SA.cons (sp rfl) (SE.varN n_Race_start_name) (SA.nil))) (SE.v (SE.int)))) (SB.nil)
theorem D_Race_start (T : Hd.TT K mg h) : DefM P w K mg base "Race" "start" 5 ["self", "name"] [] (spF K Cd.m_Race_start Cd.F_Race_start) :=
  defm T.tb (Hd.cls_Race T) (Hd.m_Race_start T) 23 rfl rfl rfl rfl (fun _ _ _ _ _ _ us hl => match us, hl with | [_, _], _ => rfl) fun fd F => fn_ok F sc_Race_start rfl (by decide) (b_Race_start T)
abbrev N_Race_with_pieces : List Str := ["self", "name", "pieces"]
theorem nd_Race_with_pieces : (N_Race_with_pieces).Nodup := by decide
theorem sc_Race_with_pieces : FnScope N_Race_with_pieces ["self", "name", "pieces"] (defScope Hd.s_Race_with_pieces) := ⟨rfl, rfl, rfl, by decide +kernel, rfl, by decide +kernel, by decide +kernel⟩
theorem n_Race_with_pieces_self : Nm N_Race_with_pieces (defScope Hd.s_Race_with_pieces) 0 "self" := ⟨rfl, by decide +kernel, by decide +kernel, by decide +kernel⟩
theorem n_Race_with_pieces_name : Nm N_Race_with_pieces (defScope Hd.s_Race_with_pieces) 1 "name" := ⟨rfl, by decide +kernel, by decide +kernel, by decide +kernel⟩
theorem n_Race_with_pieces_pieces : Nm N_Race_with_pieces (defScope Hd.s_Race_with_pieces) 2 "pieces" := ⟨rfl, by decide +kernel, by decide +kernel, by decide +kernel⟩
theorem b_Race_with_pieces (T : Hd.TT K mg h) : BodyD P w K mg base N_Race_with_pieces "Race.with_pieces" (defScope Hd.s_Race_with_pieces) (defBody Hd.s_Race_with_pieces) (He.ma K (He.ga K "Race") "with_pieces") 20 Cd.c_Race_with_pieces := fun cdv A outer s H E hr hgd tk po =>
  have hu := Room.units hr
  SB.cons (SS.ret (SE.mk tk (hr.mono (j := 20) (by decide)) hgd (D_Race___init__ T) rfl rfl (sp rfl) (bt rfl) (SA.cons (sp rfl) (SE.prop (hr.mono (j := 2) (by decide)) hgd (D_Race_length T) rfl (SE.varN n_Race_with_pieces_self)) (SA.cons (sp rfl) (SE.starK (SE.pl (SPl.attr (Hd.cls_Race T) (Hd.na_Race_own_runners T) rfl (SPl.nameN n_Race_with_pieces_self))) (SE.varN n_Race_with_pieces_name) (SE.tup (SA.cons (sp rfl) (SE.methP tk (hr.mono (j := 5) (by decide)) hgd (D_Race_start T) (sp rfl) (bt rfl) rfl (SE.varN n_Race_with_pieces_self) (SA.cons (sp rfl) (SE.varN n_Race_with_pieces_name) (SA.nil))) (SA.cons (sp rfl) (SE.varN n_Race_with_pieces_pieces) (SA.nil))))) (SA.nil))))) (SB.nil)
theorem D_Race_with_pieces (T : Hd.TT K mg h) : DefM P w K mg base "Race" "with_pieces" 21 ["self", "name", "pieces"] [] (spF K Cd.m_Race_with_pieces Cd.F_Race_with_pieces) :=
  defm T.tb (Hd.cls_Race T) (Hd.m_Race_with_pieces T) 31 rfl rfl rfl rfl (fun _ _ _ _ _ _ us hl => match us, hl with | [_, _, _], _ => rfl) fun fd F => fn_ok F sc_Race_with_pieces rfl (by decide) (b_Race_with_pieces T)
end
end Wk

namespace Wk
open PySem PySem.Spec PyProof.Rows L2 Dn Cd
section
variable {P : Program} {w : World} {K : PySem.W.Frag} {mg : Str → Option Value} {base h : Heap}
abbrev N_as_time : List Str := ["value"]
theorem nd_as_time : (N_as_time).Nodup := by decide
theorem sc_as_time : FnScope N_as_time ["value"] (defScope Hd.s_as_time) := ⟨rfl, rfl, rfl, by decide +kernel, rfl, by decide +kernel, by decide +kernel⟩
theorem n_as_time_value : Nm N_as_time (defScope Hd.s_as_time) 0 "value" := ⟨rfl, by decide +kernel, by decide +kernel, by decide +kernel⟩
theorem b_as_time (T : Hd.TT K mg h) : BodyD P w K mg base N_as_time "as_time" (defScope Hd.s_as_time) (defBody Hd.s_as_time) (He.ga K "as_time") 12 Cd.c_as_time := fun cdv A outer s H E hr hgd tk po =>
  have hu := Room.units hr
  SB.cons (SS.ite (ST.wp (SW.or (ST.not (ST.tru (fun _ => rfl) (SE.v (Dn.SE.callP tk (hr.mono (j := 5) (by decide)) hgd (D_is_number T) rfl rfl (sp rfl) (bt rfl) (SA.cons (sp rfl) (SE.varN n_as_time_value) (SA.nil)))))) (SW.or1 (ST.cmpn ov_lt rfl (Dn.SE.callP tk (hr.mono (j := 11) (by decide)) hgd (D_compare T) rfl rfl (sp rfl) (bt rfl) (SA.cons (sp rfl) (SE.varN n_as_time_value) (SA.cons (sp rfl) (SE.int) (SA.nil)))) (SE.v (SE.int)))))) (SB.cons (SS.no) (SB.nil)) (SB.nil)) (SB.cons (SS.ret (Dn.SE.callP tk (hr.mono (j := 7) (by decide)) hgd (D_as_ratio T) rfl rfl (sp rfl) (bt rfl) (SA.cons (sp rfl) (SE.varN n_as_time_value) (SA.nil)))) (SB.nil))
theorem D_as_time (T : Hd.TT K mg h) : Def1 P w K mg base "as_time" 13 ["value"] [] (spF K Cd.m_as_time Cd.F_as_time) :=
  def1 T.tb (Hd.g_as_time T) 15 rfl rfl rfl rfl (fun _ _ _ _ _ _ us hl => match us, hl with | [_], _ => rfl) fun fd F => fn_ok F sc_as_time rfl (by decide) (b_as_time T)
abbrev N_Race_changed : List Str := ["self", "name", "time", "speed", "pieces", "moment", "rest", "piece"]
theorem nd_Race_changed : (N_Race_changed).Nodup := by decide
theorem sc_Race_changed : FnScope N_Race_changed ["self", "name", "time", "speed"] (defScope Hd.s_Race_changed) := ⟨rfl, rfl, rfl, by decide +kernel, rfl, by decide +kernel, by decide +kernel⟩
theorem n_Race_changed_self : Nm N_Race_changed (defScope Hd.s_Race_changed) 0 "self" := ⟨rfl, by decide +kernel, by decide +kernel, by decide +kernel⟩
theorem n_Race_changed_name : Nm N_Race_changed (defScope Hd.s_Race_changed) 1 "name" := ⟨rfl, by decide +kernel, by decide +kernel, by decide +kernel⟩
theorem n_Race_changed_time : Nm N_Race_changed (defScope Hd.s_Race_changed) 2 "time" := ⟨rfl, by decide +kernel, by decide +kernel, by decide +kernel⟩
theorem n_Race_changed_speed : Nm N_Race_changed (defScope Hd.s_Race_changed) 3 "speed" := ⟨rfl, by decide +kernel, by decide +kernel, by decide +kernel⟩
theorem n_Race_changed_pieces : Nm N_Race_changed (defScope Hd.s_Race_changed) 4 "pieces" := ⟨rfl, by decide +kernel, by decide +kernel, by decide +kernel⟩
theorem l_Race_changed_pieces : Lc N_Race_changed (defScope Hd.s_Race_changed) 4 "pieces" := ⟨rfl, by decide +kernel⟩
theorem n_Race_changed_moment : Nm N_Race_changed (defScope Hd.s_Race_changed) 5 "moment" := ⟨rfl, by decide +kernel, by decide +kernel, by decide +kernel⟩
theorem l_Race_changed_moment : Lc N_Race_changed (defScope Hd.s_Race_changed) 5 "moment" := ⟨rfl, by decide +kernel⟩
theorem n_Race_changed_rest : Nm N_Race_changed (defScope Hd.s_Race_changed) 6 "rest" := ⟨rfl, by decide +kernel, by decide +kernel, by decide +kernel⟩
theorem l_Race_changed_rest : Lc N_Race_changed (defScope Hd.s_Race_changed) 6 "rest" := ⟨rfl, by decide +kernel⟩
theorem b_Race_changed (T : Hd.TT K mg h) : BodyD P w K mg base N_Race_changed "Race.changed" (defScope Hd.s_Race_changed) (defBody Hd.s_Race_changed) (He.ma K (He.ga K "Race") "changed") 22 Cd.c_Race_changed := fun cdv A outer s H E hr hgd tk po =>
  have hu := Room.units hr
  SB.cons (SS.setN nd_Race_changed l_Race_changed_pieces rfl rfl (SE.methP tk (hr.mono (j := 5) (by decide)) hgd (D_Race_pieces T) (sp rfl) (bt rfl) rfl (SE.varN n_Race_changed_self) (SA.cons (sp rfl) (SE.varN n_Race_changed_name) (SA.nil)))) (SB.cons (SS.setN nd_Race_changed l_Race_changed_moment rfl rfl (Dn.SE.callP tk (hr.mono (j := 13) (by decide)) hgd (D_as_time T) rfl rfl (sp rfl) (bt rfl) (SA.cons (sp rfl) (SE.varN n_Race_changed_time) (SA.nil)))) (SB.cons (SS.setLc (own := [("piece", 7)]) rfl nd_Race_changed rfl rfl (sw_true rfl rfl rfl rfl) (show BlkOk N_Race_changed (defScope Hd.s_Race_changed) _ _ from ⟨rfl, by decide +kernel, by decide +kernel, by decide +kernel, by decide +kernel⟩) (by decide) (fun _ => rfl) (SI.data (SE.varN n_Race_changed_pieces)) (fun _ _ _ _ _ => SGw.nameN nd_Race_changed ⟨rfl, rfl⟩ rfl (by decide)) (fun _ _ _ _ _ => STs.one (ST.cmpn ov_lt rfl (Dn.SE.callP takesF (hr.mono (j := 11) (by decide)) hgd (D_compare T) rfl rfl (sp rfl) (bt rfl) (SA.cons (sp rfl) (SE.ixpN hu (fun _ _ => rfl) ⟨rfl, rfl, rfl, rfl⟩ (SE.v (SE.int))) (SA.cons (sp rfl) (SE.varN ⟨rfl, rfl, rfl, rfl⟩) (SA.nil)))) (SE.v (SE.int)))) (fun _ _ _ _ _ => SE.varN ⟨rfl, rfl, rfl, rfl⟩)) (SB.cons (SS.ret (SE.methP tk (hr.mono (j := 21) (by decide)) hgd (D_Race_with_pieces T) (sp rfl) (bt rfl) rfl (SE.varN n_Race_changed_self) (SA.cons (sp rfl) (SE.varN n_Race_changed_name) (SA.cons (sp rfl) (SE.lst (SA.star rfl (SE.varN n_Race_changed_rest) (SA.cons (sp rfl) (SE.tup (SA.cons (sp rfl) (SE.varN n_Race_changed_moment) (SA.cons (sp rfl) (Dn.SE.callP tk (hr.mono (j := 7) (by decide)) hgd (D_as_ratio T) rfl rfl (sp rfl) (bt rfl) (SA.cons (sp rfl) (SE.varN n_Race_changed_speed) (SA.nil))) (SA.nil)))) (SA.nil)))) (SA.nil))))) (SB.nil))))
theorem D_Race_changed (T : Hd.TT K mg h) : DefM P w K mg base "Race" "changed" 23 ["self", "name", "time", "speed"] [] (spF K Cd.m_Race_changed Cd.F_Race_changed) :=
  defm T.tb (Hd.cls_Race T) (Hd.m_Race_changed T) 30 rfl rfl rfl rfl (fun _ _ _ _ _ _ us hl => match us, hl with | [_, _, _, _], _ => rfl) fun fd F => fn_ok F sc_Race_changed rfl (by decide) (b_Race_changed T)
abbrev N_Session___init__ : List Str := ["self", "race"]
theorem nd_Session___init__ : (N_Session___init__).Nodup := by decide
theorem sc_Session___init__ : FnScope N_Session___init__ ["self", "race"] (defScope Hd.s_Session___init__) := ⟨rfl, rfl, rfl, by decide +kernel, rfl, by decide +kernel, by decide +kernel⟩
theorem n_Session___init___self : Nm N_Session___init__ (defScope Hd.s_Session___init__) 0 "self" := ⟨rfl, by decide +kernel, by decide +kernel, by decide +kernel⟩
theorem n_Session___init___race : Nm N_Session___init__ (defScope Hd.s_Session___init__) 1 "race" := ⟨rfl, by decide +kernel, by decide +kernel, by decide +kernel⟩
theorem b_Session___init__ (T : Hd.TT K mg h) : BodyD P w K mg base N_Session___init__ "Session.__init__" (defScope Hd.s_Session___init__) (defBody Hd.s_Session___init__) (He.ma K (He.ga K "Session") "__init__") 0 Cd.c_Session___init__ := fun cdv A outer s H E hr hgd tk po =>
  have hu := Room.units hr
  SB.cons (SS.fld (Hd.cls_Session T) (Hd.na_Session_own_races T) rfl (SE.lst (SA.cons (sp rfl) (SE.varN n_Session___init___race) (SA.nil))) (SPl.nameN n_Session___init___self)) (SB.cons (SS.fld (Hd.cls_Session T) (Hd.na_Session_own_clocks T) rfl (SE.lst (SA.cons (sp rfl) (SE.tup (SA.cons (sp rfl) (SE.int) (SA.cons (sp rfl) (SE.int) (SA.nil)))) (SA.nil))) (SPl.nameN n_Session___init___self)) (SB.cons (SS.fld (Hd.cls_Session T) (Hd.na_Session_own_steps T) rfl (SE.lst (SA.nil)) (SPl.nameN n_Session___init___self)) (SB.nil)))
theorem D_Session___init__ (T : Hd.TT K mg h) : DefI P w K mg base "Session" 1 ["self", "race"] [] (spF K Cd.m_Session___init__ Cd.F_Session___init__) :=
  defi T.tb (Hd.g_Session T) (Hd.mkr_Session T) 40 rfl rfl rfl rfl (fun _ _ _ _ _ _ us hl => match us, hl with | [_, _], _ => rfl) fun fd F => fn_ok F sc_Session___init__ rfl (by decide) (b_Session___init__ T)
abbrev N_Session___len__ : List Str := ["self"]
theorem nd_Session___len__ : (N_Session___len__).Nodup := by decide
theorem sc_Session___len__ : FnScope N_Session___len__ ["self"] (defScope Hd.s_Session___len__) := ⟨rfl, rfl, rfl, by decide +kernel, rfl, by decide +kernel, by decide +kernel⟩
theorem n_Session___len___self : Nm N_Session___len__ (defScope Hd.s_Session___len__) 0 "self" := ⟨rfl, by decide +kernel, by decide +kernel, by decide +kernel⟩
theorem b_Session___len__ (T : Hd.TT K mg h) : BodyD P w K mg base N_Session___len__ "Session.__len__" (defScope Hd.s_Session___len__) (defBody Hd.s_Session___len__) (He.ma K (He.ga K "Session") "__len__") 0 Cd.c_Session___len__ := fun cdv A outer s H E hr hgd tk po =>
  have hu := Room.units hr
  SB.cons (SS.ret (SE.callB1 cv_len (Hd.b_len T) (by decide +kernel) rfl (by decide) rfl (sp rfl) (bt rfl) (SV.pl (SPl.attr (Hd.cls_Session T) (Hd.na_Session_own_steps T) rfl (SPl.nameN n_Session___len___self))))) (SB.nil)
theorem D_Session___len__ (T : Hd.TT K mg h) : DefM P w K mg base "Session" "__len__" 1 ["self"] [] (spF K Cd.m_Session___len__ Cd.F_Session___len__) :=
  defm T.tb (Hd.cls_Session T) (Hd.m_Session___len__ T) 46 rfl rfl rfl rfl (fun _ _ _ _ _ _ us hl => match us, hl with | [_], _ => rfl) fun fd F => fn_ok F sc_Session___len__ rfl (by decide) (b_Session___len__ T)
abbrev N_Session_clock : List Str := ["self"]
theorem nd_Session_clock : (N_Session_clock).Nodup := by decide
theorem sc_Session_clock : FnScope N_Session_clock ["self"] (defScope Hd.s_Session_clock) := ⟨rfl, rfl, rfl, by decide +kernel, rfl, by decide +kernel, by decide +kernel⟩
theorem n_Session_clock_self : Nm N_Session_clock (defScope Hd.s_Session_clock) 0 "self" := ⟨rfl, by decide +kernel, by decide +kernel, by decide +kernel⟩
theorem b_Session_clock (T : Hd.TT K mg h) {f : Addr} : BodyD P w K mg base N_Session_clock "Session.clock" (defScope Hd.s_Session_clock) (defBody Hd.s_Session_clock) (f) 0 Cd.c_Session_clock := fun cdv A outer s H E hr hgd tk po =>
  have hu := Room.units hr
  SB.cons (SS.ret (SE.ixQ hu (fun _ _ => rfl) (SQ.pl (SPl.attr (Hd.cls_Session T) (Hd.na_Session_own_clocks T) rfl (SPl.nameN n_Session_clock_self))) (SQ.neg))) (SB.nil)
theorem D_Session_clock (T : Hd.TT K mg h) : DefP P w K mg base "Session" "clock" 1 ["self"] (spF K Cd.m_Session_clock Cd.F_Session_clock) :=
  defp (p := ⟨"Session", "clock", Hd.d_Session_clock⟩) T (Hd.cls_Session T) 2 rfl rfl rfl (fun _ _ _ _ _ _ us hl => match us, hl with | [_], _ => rfl) fun f fd F => fn_ok F sc_Session_clock rfl (by decide) (b_Session_clock T)
abbrev N_Session_race : List Str := ["self"]
theorem nd_Session_race : (N_Session_race).Nodup := by decide
theorem sc_Session_race : FnScope N_Session_race ["self"] (defScope Hd.s_Session_race) := ⟨rfl, rfl, rfl, by decide +kernel, rfl, by decide +kernel, by decide +kernel⟩
theorem n_Session_race_self : Nm N_Session_race (defScope Hd.s_Session_race) 0 "self" := ⟨rfl, by decide +kernel, by decide +kernel, by decide +kernel⟩
theorem b_Session_race (T : Hd.TT K mg h) {f : Addr} : BodyD P w K mg base N_Session_race "Session.race" (defScope Hd.s_Session_race) (defBody Hd.s_Session_race) (f) 0 Cd.c_Session_race := fun cdv A outer s H E hr hgd tk po =>
  have hu := Room.units hr
  SB.cons (SS.ret (SE.ixQ hu (fun _ _ => rfl) (SQ.pl (SPl.attr (Hd.cls_Session T) (Hd.na_Session_own_races T) rfl (SPl.nameN n_Session_race_self))) (SQ.neg))) (SB.nil)
theorem D_Session_race (T : Hd.TT K mg h) : DefP P w K mg base "Session" "race" 1 ["self"] (spF K Cd.m_Session_race Cd.F_Session_race) :=
  defp (p := ⟨"Session", "race", Hd.d_Session_race⟩) T (Hd.cls_Session T) 1 rfl rfl rfl (fun _ _ _ _ _ _ us hl => match us, hl with | [_], _ => rfl) fun f fd F => fn_ok F sc_Session_race rfl (by decide) (b_Session_race T)
end
end Wk

namespace Wk
open PySem PySem.Spec PyProof.Rows L2 Dn Cd
section
variable {P : Program} {w : World} {K : PySem.W.Frag} {mg : Str → Option Value} {base h : Heap}
abbrev N_Session_undo : List Str := ["self"]
theorem nd_Session_undo : (N_Session_undo).Nodup := by decide
theorem sc_Session_undo : FnScope N_Session_undo ["self"] (defScope Hd.s_Session_undo) := ⟨rfl, rfl, rfl, by decide +kernel, rfl, by decide +kernel, by decide +kernel⟩
theorem n_Session_undo_self : Nm N_Session_undo (defScope Hd.s_Session_undo) 0 "self" := ⟨rfl, by decide +kernel, by decide +kernel, by decide +kernel⟩
theorem b_Session_undo (T : Hd.TT K mg h) : BodyD P w K mg base N_Session_undo "Session.undo" (defScope Hd.s_Session_undo) (defBody Hd.s_Session_undo) (He.ma K (He.ga K "Session") "undo") 0 Cd.c_Session_undo := fun cdv A outer s H E hr hgd tk po =>
  have hu := Room.units hr
  SB.cons (SS.ite (ST.not (ST.tru (fun _ => rfl) (SV.pl (SPl.attr (Hd.cls_Session T) (Hd.na_Session_own_steps T) rfl (SPl.nameN n_Session_undo_self))))) (SB.cons (SS.no) (SB.nil)) (SB.nil)) (SB.cons (SS.expr rfl (SE.pop rfl rfl (SPl.attr (Hd.cls_Session T) (Hd.na_Session_own_races T) rfl (SPl.nameN n_Session_undo_self)))) (SB.cons (SS.expr rfl (SE.pop rfl rfl (SPl.attr (Hd.cls_Session T) (Hd.na_Session_own_clocks T) rfl (SPl.nameN n_Session_undo_self)))) (SB.cons (SS.ret (SE.pop rfl rfl (SPl.attr (Hd.cls_Session T) (Hd.na_Session_own_steps T) rfl (SPl.nameN n_Session_undo_self)))) (SB.nil))))
theorem D_Session_undo (T : Hd.TT K mg h) : DefM P w K mg base "Session" "undo" 1 ["self"] [] (spF K Cd.m_Session_undo Cd.F_Session_undo) :=
  defm T.tb (Hd.cls_Session T) (Hd.m_Session_undo T) 45 rfl rfl rfl rfl (fun _ _ _ _ _ _ us hl => match us, hl with | [_], _ => rfl) fun fd F => fn_ok F sc_Session_undo rfl (by decide) (b_Session_undo T)
abbrev N__law_draw : List Str := ["pool", "many", "digit"]
theorem nd__law_draw : (N__law_draw).Nodup := by decide
theorem sc__law_draw : FnScope N__law_draw ["pool", "many"] (defScope Hd.s__law_draw) := ⟨rfl, rfl, rfl, by decide +kernel, rfl, by decide +kernel, by decide +kernel⟩
theorem n__law_draw_pool : Nm N__law_draw (defScope Hd.s__law_draw) 0 "pool" := ⟨rfl, by decide +kernel, by decide +kernel, by decide +kernel⟩
theorem n__law_draw_many : Nm N__law_draw (defScope Hd.s__law_draw) 1 "many" := ⟨rfl, by decide +kernel, by decide +kernel, by decide +kernel⟩
theorem n__law_draw_digit : Nm N__law_draw (defScope Hd.s__law_draw) 2 "digit" := ⟨rfl, by decide +kernel, by decide +kernel, by decide +kernel⟩
theorem l__law_draw_digit : Lc N__law_draw (defScope Hd.s__law_draw) 2 "digit" := ⟨rfl, by decide +kernel⟩
theorem b__law_draw (T : Hd.TT K mg h) : BodyD P w K mg base N__law_draw "_law_draw" (defScope Hd.s__law_draw) (defBody Hd.s__law_draw) (He.ga K "_law_draw") 0 Cd.c__law_draw := fun cdv A outer s H E hr hgd tk po =>
  have hu := Room.units hr
  SB.cons (SS.ite (ST.cmpn ov_gt rfl (SE.ixpN hu (fun _ _ => rfl) n__law_draw_pool (SE.v (SE.int))) (SE.v (SE.int))) (SB.cons (SS.setN nd__law_draw l__law_draw_digit rfl rfl (SE.bn ov_mod (SE.ixpN hu (fun _ _ => rfl) n__law_draw_pool (SE.v (SE.int))) (SV.pkN n__law_draw_many))) (SB.cons (SS.itemQ hu (fun _ => rfl) rfl rfl rfl (SE.bn ov_div (SE.ixpN hu (fun _ _ => rfl) n__law_draw_pool (SE.v (SE.int))) (SV.pkN n__law_draw_many)) (SPl.nameN n__law_draw_pool) (SQ.int)) (SB.cons (SS.retNN n__law_draw_digit) (SB.nil)))) (SB.nil)) (SB.cons (SS.itemQ hu (fun _ => rfl) rfl rfl rfl (SE.bn ov_mod (SE.bn ov_add (SE.bn ov_mul (SE.ixpN hu (fun _ _ => rfl) n__law_draw_pool (SE.v (SE.int))) (SE.v (SE.int))) (SE.v (SE.int))) (SE.v (SE.int))) (SPl.nameN n__law_draw_pool) (SQ.int)) (SB.cons (SS.ret (SE.bn ov_mod (SE.bn ov_div (SE.bn ov_mod (SE.bn ov_mul (SE.ixpN hu (fun _ _ => rfl) n__law_draw_pool (SE.v (SE.int))) (SE.v (SE.ixpN hu (fun _ _ => rfl) n__law_draw_pool (SE.v (SE.int))))) (SE.v (SE.int))) (SE.v (SE.int))) (SV.pkN n__law_draw_many))) (SB.nil)))
theorem D__law_draw (T : Hd.TT K mg h) : Def1 P w K mg base "_law_draw" 1 ["pool", "many"] [] (spF K Cd.m__law_draw Cd.F__law_draw) :=
  def1 T.tb (Hd.g__law_draw T) 48 rfl rfl rfl rfl (fun _ _ _ _ _ _ us hl => match us, hl with | [_, _], _ => rfl) fun fd F => fn_ok F sc__law_draw rfl (by decide) (b__law_draw T)
abbrev N__law_pool : List Str := ["script", "k", "cell", "seed"]
theorem nd__law_pool : (N__law_pool).Nodup := by decide
theorem sc__law_pool : FnScope N__law_pool ["script", "k"] (defScope Hd.s__law_pool) := ⟨rfl, rfl, rfl, by decide +kernel, rfl, by decide +kernel, by decide +kernel⟩
theorem n__law_pool_script : Nm N__law_pool (defScope Hd.s__law_pool) 0 "script" := ⟨rfl, by decide +kernel, by decide +kernel, by decide +kernel⟩
theorem n__law_pool_k : Nm N__law_pool (defScope Hd.s__law_pool) 1 "k" := ⟨rfl, by decide +kernel, by decide +kernel, by decide +kernel⟩
theorem n__law_pool_cell : Nm N__law_pool (defScope Hd.s__law_pool) 2 "cell" := ⟨rfl, by decide +kernel, by decide +kernel, by decide +kernel⟩
theorem l__law_pool_cell : Lc N__law_pool (defScope Hd.s__law_pool) 2 "cell" := ⟨rfl, by decide +kernel⟩
theorem n__law_pool_seed : Nm N__law_pool (defScope Hd.s__law_pool) 3 "seed" := ⟨rfl, by decide +kernel, by decide +kernel, by decide +kernel⟩
theorem l__law_pool_seed : Lc N__law_pool (defScope Hd.s__law_pool) 3 "seed" := ⟨rfl, by decide +kernel⟩
theorem b__law_pool (T : Hd.TT K mg h) : BodyD P w K mg base N__law_pool "_law_pool" (defScope Hd.s__law_pool) (defBody Hd.s__law_pool) (He.ga K "_law_pool") 0 Cd.c__law_pool := fun cdv A outer s H E hr hgd tk po =>
  have hu := Room.units hr
  SB.cons (SS.setN nd__law_pool l__law_pool_cell rfl rfl (SE.int)) (SB.cons (SS.ite (ST.cmppN ov_lt rfl n__law_pool_k (SE.v (SE.callB1 cv_len (Hd.b_len T) (by decide +kernel) rfl (by decide) rfl (sp rfl) (bt rfl) (SV.pkN n__law_pool_script)))) (SB.cons (SS.setN nd__law_pool l__law_pool_cell rfl rfl (SE.ixpN hu (fun _ _ => rfl) n__law_pool_script (SV.pkN n__law_pool_k))) (SB.nil)) (SB.nil)) (SB.cons (SS.setN nd__law_pool l__law_pool_seed rfl rfl (SE.bn ov_mod (SE.bn ov_pow (SE.bn ov_add (SE.bn ov_add (SE.bpN ov_mod n__law_pool_cell (SE.v (SE.int))) (SE.v (SE.bn ov_mul (SE.bn ov_mul (SE.int) (SV.pkN n__law_pool_k)) (SV.pkN n__law_pool_k)))) (SE.v (SE.int))) (SE.v (SE.int))) (SE.v (SE.int)))) (SB.cons (SS.ite (ST.cmppN ov_lt rfl n__law_pool_cell (SE.v (SE.bn ov_pow (SE.int) (SE.v (SE.int))))) (SB.cons (SS.setN nd__law_pool l__law_pool_cell rfl rfl (SE.int)) (SB.nil)) (SB.nil)) (SB.cons (SS.ret (SE.lst (SA.cons (sp rfl) (SE.varN n__law_pool_cell) (SA.cons (sp rfl) (SE.varN n__law_pool_seed) (SA.nil))))) (SB.nil)))))
theorem D__law_pool (T : Hd.TT K mg h) : Def1 P w K mg base "_law_pool" 1 ["script", "k"] [] (spF K Cd.m__law_pool Cd.F__law_pool) :=
  def1 T.tb (Hd.g__law_pool T) 47 rfl rfl rfl rfl (fun _ _ _ _ _ _ us hl => match us, hl with | [_, _], _ => rfl) fun fd F => fn_ok F sc__law_pool rfl (by decide) (b__law_pool T)
abbrev N__law_choose : List Str := ["pool", "items"]
theorem nd__law_choose : (N__law_choose).Nodup := by decide
theorem sc__law_choose : FnScope N__law_choose ["pool", "items"] (defScope Hd.s__law_choose) := ⟨rfl, rfl, rfl, by decide +kernel, rfl, by decide +kernel, by decide +kernel⟩
theorem n__law_choose_pool : Nm N__law_choose (defScope Hd.s__law_choose) 0 "pool" := ⟨rfl, by decide +kernel, by decide +kernel, by decide +kernel⟩
theorem n__law_choose_items : Nm N__law_choose (defScope Hd.s__law_choose) 1 "items" := ⟨rfl, by decide +kernel, by decide +kernel, by decide +kernel⟩
theorem b__law_choose (T : Hd.TT K mg h) : BodyD P w K mg base N__law_choose "_law_choose" (defScope Hd.s__law_choose) (defBody Hd.s__law_choose) (He.ga K "_law_choose") 2 Cd.c__law_choose := fun cdv A outer s H E hr hgd tk po =>
  have hu := Room.units hr
  SB.cons (SS.ret (SE.ixpN hu (fun _ _ => rfl) n__law_choose_items (SE.v (SE.callO tk (hr.mono (j := 1) (by decide)) hgd (D__law_draw T) rfl rfl (sp rfl) (bt rfl) (SR.oN (sp rfl) n__law_choose_pool (SR.dd (sp rfl) (SE.callB1 cv_len (Hd.b_len T) (by decide +kernel) rfl (by decide) rfl (sp rfl) (bt rfl) (SV.pkN n__law_choose_items)) (SR.nil))))))) (SB.nil)
theorem D__law_choose (T : Hd.TT K mg h) : Def1 P w K mg base "_law_choose" 3 ["pool", "items"] [] (spF K Cd.m__law_choose Cd.F__law_choose) :=
  def1 T.tb (Hd.g__law_choose T) 49 rfl rfl rfl rfl (fun _ _ _ _ _ _ us hl => match us, hl with | [_, _], _ => rfl) fun fd F => fn_ok F sc__law_choose rfl (by decide) (b__law_choose T)
abbrev N__law_number : List Str := ["pool", "low", "high", "value"]
theorem nd__law_number : (N__law_number).Nodup := by decide
theorem sc__law_number : FnScope N__law_number ["pool", "low", "high"] (defScope Hd.s__law_number) := ⟨rfl, rfl, rfl, by decide +kernel, rfl, by decide +kernel, by decide +kernel⟩
theorem n__law_number_pool : Nm N__law_number (defScope Hd.s__law_number) 0 "pool" := ⟨rfl, by decide +kernel, by decide +kernel, by decide +kernel⟩
theorem n__law_number_low : Nm N__law_number (defScope Hd.s__law_number) 1 "low" := ⟨rfl, by decide +kernel, by decide +kernel, by decide +kernel⟩
theorem n__law_number_high : Nm N__law_number (defScope Hd.s__law_number) 2 "high" := ⟨rfl, by decide +kernel, by decide +kernel, by decide +kernel⟩
theorem n__law_number_value : Nm N__law_number (defScope Hd.s__law_number) 3 "value" := ⟨rfl, by decide +kernel, by decide +kernel, by decide +kernel⟩
theorem l__law_number_value : Lc N__law_number (defScope Hd.s__law_number) 3 "value" := ⟨rfl, by decide +kernel⟩
theorem b__law_number (T : Hd.TT K mg h) : BodyD P w K mg base N__law_number "_law_number" (defScope Hd.s__law_number) (defBody Hd.s__law_number) (He.ga K "_law_number") 4 Cd.c__law_number := fun cdv A outer s H E hr hgd tk po =>
  have hu := Room.units hr
  SB.cons (SS.setN nd__law_number l__law_number_value rfl rfl (SE.bpN ov_add n__law_number_low (SE.v (SE.callO tk (hr.mono (j := 1) (by decide)) hgd (D__law_draw T) rfl rfl (sp rfl) (bt rfl) (SR.oN (sp rfl) n__law_number_pool (SR.dd (sp rfl) (SE.bn ov_add (SE.bpN ov_sub n__law_number_high (SV.pkN n__law_number_low)) (SE.v (SE.int))) (SR.nil))))))) (SB.cons (SS.ite (ST.cmpn ov_gt rfl (SE.callO tk (hr.mono (j := 1) (by decide)) hgd (D__law_draw T) rfl rfl (sp rfl) (bt rfl) (SR.oN (sp rfl) n__law_number_pool (SR.dd (sp rfl) (SE.int) (SR.nil)))) (SE.v (SE.int))) (SB.cons (SS.retNN n__law_number_value) (SB.nil)) (SB.nil)) (SB.cons (SS.ret (Dn.SE.callP tk (hr.mono (j := 3) (by decide)) hgd (D_ratio_2 T) rfl rfl (sp rfl) (bt rfl) (SA.cons (sp rfl) (SE.bn ov_add (SE.bpN ov_mul n__law_number_value (SE.v (SE.int))) (SE.v (SE.callO tk (hr.mono (j := 1) (by decide)) hgd (D__law_draw T) rfl rfl (sp rfl) (bt rfl) (SR.oN (sp rfl) n__law_number_pool (SR.dd (sp rfl) (SE.int) (SR.nil)))))) (SA.cons (sp rfl) (SE.bn ov_add (SE.int) (SE.v (SE.callO tk (hr.mono (j := 1) (by decide)) hgd (D__law_draw T) rfl rfl (sp rfl) (bt rfl) (SR.oN (sp rfl) n__law_number_pool (SR.dd (sp rfl) (SE.int) (SR.nil)))))) (SA.nil))))) (SB.nil)))
theorem D__law_number (T : Hd.TT K mg h) : Def1 P w K mg base "_law_number" 5 ["pool", "low", "high"] [] (spF K Cd.m__law_number Cd.F__law_number) :=
  def1 T.tb (Hd.g__law_number T) 50 rfl rfl rfl rfl (fun _ _ _ _ _ _ us hl => match us, hl with | [_, _, _], _ => rfl) fun fd F => fn_ok F sc__law_number rfl (by decide) (b__law_number T)
abbrev N_plus : List Str := ["first", "second", "one", "two"]
theorem nd_plus : (N_plus).Nodup := by decide
theorem sc_plus : FnScope N_plus ["first", "second"] (defScope Hd.s_plus) := ⟨rfl, rfl, rfl, by decide +kernel, rfl, by decide +kernel, by decide +kernel⟩
theorem n_plus_first : Nm N_plus (defScope Hd.s_plus) 0 "first" := ⟨rfl, by decide +kernel, by decide +kernel, by decide +kernel⟩
theorem n_plus_second : Nm N_plus (defScope Hd.s_plus) 1 "second" := ⟨rfl, by decide +kernel, by decide +kernel, by decide +kernel⟩
theorem n_plus_one : Nm N_plus (defScope Hd.s_plus) 2 "one" := ⟨rfl, by decide +kernel, by decide +kernel, by decide +kernel⟩
theorem n_plus_two : Nm N_plus (defScope Hd.s_plus) 3 "two" := ⟨rfl, by decide +kernel, by decide +kernel, by decide +kernel⟩
theorem b_plus (T : Hd.TT K mg h) : BodyD P w K mg base N_plus "plus" (defScope Hd.s_plus) (defBody Hd.s_plus) (He.ga K "plus") 8 Cd.c_plus := fun cdv A outer s H E hr hgd tk po =>
  have hu := Room.units hr
  SB.cons (SS.par2 rfl nd_plus rfl rfl (by decide) rfl rfl rfl rfl (sp rfl) (sp rfl) (Dn.SE.callP tk (hr.mono (j := 7) (by decide)) hgd (D_as_ratio T) rfl rfl (sp rfl) (bt rfl) (SA.cons (sp rfl) (SE.varN n_plus_first) (SA.nil))) (Dn.SE.callP tk (hr.mono (j := 7) (by decide)) hgd (D_as_ratio T) rfl rfl (sp rfl) (bt rfl) (SA.cons (sp rfl) (SE.varN n_plus_second) (SA.nil)))) (SB.cons (SS.ret (Dn.SE.callP tk (hr.mono (j := 3) (by decide)) hgd (D_ratio_2 T) rfl rfl (sp rfl) (bt rfl) (SA.cons (sp rfl) (SE.bn ov_add (SE.bn ov_mul (SE.ixpN hu (fun _ _ => rfl) n_plus_one (SE.v (SE.int))) (SE.v (SE.ixpN hu (fun _ _ => rfl) n_plus_two (SE.v (SE.int))))) (SE.v (SE.bn ov_mul (SE.ixpN hu (fun _ _ => rfl) n_plus_two (SE.v (SE.int))) (SE.v (SE.ixpN hu (fun _ _ => rfl) n_plus_one (SE.v (SE.int))))))) (SA.cons (sp rfl) (SE.bn ov_mul (SE.ixpN hu (fun _ _ => rfl) n_plus_one (SE.v (SE.int))) (SE.v (SE.ixpN hu (fun _ _ => rfl) n_plus_two (SE.v (SE.int))))) (SA.nil))))) (SB.nil))
theorem D_plus (T : Hd.TT K mg h) : Def1 P w K mg base "plus" 9 ["first", "second"] [] (spF K Cd.m_plus Cd.F_plus) :=
  def1 T.tb (Hd.g_plus T) 7 rfl rfl rfl rfl (fun _ _ _ _ _ _ us hl => match us, hl with | [_, _], _ => rfl) fun fd F => fn_ok F sc_plus rfl (by decide) (b_plus T)
end
end Wk

namespace Wk
open PySem PySem.Spec PyProof.Rows L2 Dn Cd
section
variable {P : Program} {w : World} {K : PySem.W.Frag} {mg : Str → Option Value} {base h : Heap}
abbrev N__law_pieces : List Str := ["pool", "pieces", "time", "turn"]
theorem nd__law_pieces : (N__law_pieces).Nodup := by decide
theorem sc__law_pieces : FnScope N__law_pieces ["pool"] (defScope Hd.s__law_pieces) := ⟨rfl, rfl, rfl, by decide +kernel, rfl, by decide +kernel, by decide +kernel⟩
theorem n__law_pieces_pool : Nm N__law_pieces (defScope Hd.s__law_pieces) 0 "pool" := ⟨rfl, by decide +kernel, by decide +kernel, by decide +kernel⟩
theorem n__law_pieces_pieces : Nm N__law_pieces (defScope Hd.s__law_pieces) 1 "pieces" := ⟨rfl, by decide +kernel, by decide +kernel, by decide +kernel⟩
theorem n__law_pieces_time : Nm N__law_pieces (defScope Hd.s__law_pieces) 2 "time" := ⟨rfl, by decide +kernel, by decide +kernel, by decide +kernel⟩
theorem l__law_pieces_time : Lc N__law_pieces (defScope Hd.s__law_pieces) 2 "time" := ⟨rfl, by decide +kernel⟩
theorem l__law_pieces_turn : Lc N__law_pieces (defScope Hd.s__law_pieces) 3 "turn" := ⟨rfl, by decide +kernel⟩
theorem b__law_pieces_0 (T : Hd.TT K mg h) : BodyD P w K mg base N__law_pieces "_law_pieces" (defScope Hd.s__law_pieces) (foB (atB (defBody Hd.s__law_pieces) 1)) (He.ga K "_law_pieces") 10 Cd.c__law_pieces_0 := fun cdv A outer s H E hr hgd tk po =>
  have hu := Room.units hr
  SB.cons (SS.setN nd__law_pieces l__law_pieces_time rfl rfl (Dn.SE.callP tk (hr.mono (j := 9) (by decide)) hgd (D_plus T) rfl rfl (sp rfl) (bt rfl) (SA.cons (sp rfl) (SE.varN n__law_pieces_time) (SA.cons (sp rfl) (Dn.SE.callP tk (hr.mono (j := 3) (by decide)) hgd (D_ratio_2 T) rfl rfl (sp rfl) (bt rfl) (SA.cons (sp rfl) (SE.bn ov_add (SE.int) (SE.v (SE.callO tk (hr.mono (j := 1) (by decide)) hgd (D__law_draw T) rfl rfl (sp rfl) (bt rfl) (SR.oN (sp rfl) n__law_pieces_pool (SR.dd (sp rfl) (SE.int) (SR.nil)))))) (SA.cons (sp rfl) (SE.bn ov_add (SE.int) (SE.v (SE.callO tk (hr.mono (j := 1) (by decide)) hgd (D__law_draw T) rfl rfl (sp rfl) (bt rfl) (SR.oN (sp rfl) n__law_pieces_pool (SR.dd (sp rfl) (SE.int) (SR.nil)))))) (SA.nil)))) (SA.nil))))) (SB.cons (SS.expr rfl (SE.append rfl rfl rfl (sp rfl) (bt rfl) (SPl.nameN n__law_pieces_pieces) (SE.tup (SA.cons (sp rfl) (SE.varN n__law_pieces_time) (SA.cons (sp rfl) (SE.callO tk (hr.mono (j := 5) (by decide)) hgd (D__law_number T) rfl rfl (sp rfl) (bt rfl) (SR.oN (sp rfl) n__law_pieces_pool (SR.dd (sp rfl) (SE.un uv_neg (SE.v (SE.int))) (SR.dd (sp rfl) (SE.int) (SR.nil))))) (SA.nil)))))) (SB.nil))
theorem b__law_pieces (T : Hd.TT K mg h) : BodyD P w K mg base N__law_pieces "_law_pieces" (defScope Hd.s__law_pieces) (defBody Hd.s__law_pieces) (He.ga K "_law_pieces") 10 Cd.c__law_pieces := fun cdv A outer s H E hr hgd tk po =>
  have hu := Room.units hr
  SB.cons (SS.par2 rfl nd__law_pieces rfl rfl (by decide) rfl rfl rfl rfl (sp rfl) (sp rfl) (SE.lst (SA.cons (sp rfl) (SE.tup (SA.cons (sp rfl) (SE.int) (SA.cons (sp rfl) (SE.callO tk (hr.mono (j := 5) (by decide)) hgd (D__law_number T) rfl rfl (sp rfl) (bt rfl) (SR.oN (sp rfl) n__law_pieces_pool (SR.dd (sp rfl) (SE.un uv_neg (SE.v (SE.int))) (SR.dd (sp rfl) (SE.int) (SR.nil))))) (SA.nil)))) (SA.nil))) (SE.int)) (SB.cons (SS.for po rfl (fun _ => rfl) (SI.rng1 rfl (Hd.b_range T) (sp rfl) (SA.cons (sp rfl) (SE.callO tk (hr.mono (j := 1) (by decide)) hgd (D__law_draw T) rfl rfl (sp rfl) (bt rfl) (SR.oN (sp rfl) n__law_pieces_pool (SR.dd (sp rfl) (SE.int) (SR.nil)))) (SA.nil))) (SG.nameN nd__law_pieces l__law_pieces_turn rfl) ((b__law_pieces_0 T cdv A outer s H E hr hgd tk po))) (SB.cons (SS.retNN n__law_pieces_pieces) (SB.nil)))
theorem D__law_pieces (T : Hd.TT K mg h) : Def1 P w K mg base "_law_pieces" 11 ["pool"] [] (spF K Cd.m__law_pieces Cd.F__law_pieces) :=
  def1 T.tb (Hd.g__law_pieces T) 51 rfl rfl rfl rfl (fun _ _ _ _ _ _ us hl => match us, hl with | [_], _ => rfl) fun fd F => fn_ok F sc__law_pieces rfl (by decide) (b__law_pieces T)
abbrev N__law_race : List Str := ["pool", "many", "runners", "name"]
theorem nd__law_race : (N__law_race).Nodup := by decide
theorem sc__law_race : FnScope N__law_race ["pool", "many"] (defScope Hd.s__law_race) := ⟨rfl, rfl, rfl, by decide +kernel, rfl, by decide +kernel, by decide +kernel⟩
theorem n__law_race_pool : Nm N__law_race (defScope Hd.s__law_race) 0 "pool" := ⟨rfl, by decide +kernel, by decide +kernel, by decide +kernel⟩
theorem n__law_race_many : Nm N__law_race (defScope Hd.s__law_race) 1 "many" := ⟨rfl, by decide +kernel, by decide +kernel, by decide +kernel⟩
theorem n__law_race_runners : Nm N__law_race (defScope Hd.s__law_race) 2 "runners" := ⟨rfl, by decide +kernel, by decide +kernel, by decide +kernel⟩
theorem l__law_race_runners : Lc N__law_race (defScope Hd.s__law_race) 2 "runners" := ⟨rfl, by decide +kernel⟩
theorem n__law_race_name : Nm N__law_race (defScope Hd.s__law_race) 3 "name" := ⟨rfl, by decide +kernel, by decide +kernel, by decide +kernel⟩
theorem l__law_race_name : Lc N__law_race (defScope Hd.s__law_race) 3 "name" := ⟨rfl, by decide +kernel⟩
theorem b__law_race_0 (T : Hd.TT K mg h) : BodyD P w K mg base N__law_race "_law_race" (defScope Hd.s__law_race) (foB (atB (defBody Hd.s__law_race) 1)) (He.ga K "_law_race") 20 Cd.c__law_race_0 := fun cdv A outer s H E hr hgd tk po =>
  have hu := Room.units hr
  SB.cons (SS.itemQ hu (fun _ => rfl) rfl rfl rfl (SE.tup (SA.cons (sp rfl) (SE.callO tk (hr.mono (j := 5) (by decide)) hgd (D__law_number T) rfl rfl (sp rfl) (bt rfl) (SR.oN (sp rfl) n__law_race_pool (SR.dd (sp rfl) (SE.un uv_neg (SE.v (SE.int))) (SR.dd (sp rfl) (SE.int) (SR.nil))))) (SA.cons (sp rfl) (SE.callO tk (hr.mono (j := 11) (by decide)) hgd (D__law_pieces T) rfl rfl (sp rfl) (bt rfl) (SR.oN (sp rfl) n__law_race_pool (SR.nil))) (SA.nil)))) (SPl.nameN n__law_race_runners) (SQ.pl (SPl.nameN n__law_race_name))) (SB.nil)
theorem b__law_race (T : Hd.TT K mg h) : BodyD P w K mg base N__law_race "_law_race" (defScope Hd.s__law_race) (defBody Hd.s__law_race) (He.ga K "_law_race") 20 Cd.c__law_race := fun cdv A outer s H E hr hgd tk po =>
  have hu := Room.units hr
  SB.cons (SS.setN nd__law_race l__law_race_runners rfl rfl (SE.dnewK)) (SB.cons (SS.for po rfl (fun _ => rfl) (SI.data (SE.slice (SE.lst (SA.cons (sp rfl) (SE.str) (SA.cons (sp rfl) (SE.str) (SA.cons (sp rfl) (SE.str) (SA.cons (sp rfl) (SE.str) (SA.nil)))))) (SO.none) (SO.some (SE.varN n__law_race_many)))) (SG.nameN nd__law_race l__law_race_name rfl) ((b__law_race_0 T cdv A outer s H E hr hgd tk po))) (SB.cons (SS.ret (SE.mk tk (hr.mono (j := 20) (by decide)) hgd (D_Race___init__ T) rfl rfl (sp rfl) (bt rfl) (SA.cons (sp rfl) (SE.callO tk (hr.mono (j := 3) (by decide)) hgd (D__law_choose T) rfl rfl (sp rfl) (bt rfl) (SR.oN (sp rfl) n__law_race_pool (SR.dd (sp rfl) (SE.lst (SA.cons (sp rfl) (SE.int) (SA.cons (sp rfl) (SE.int) (SA.cons (sp rfl) (SE.int) (SA.cons (sp rfl) (SE.tup (SA.cons (sp rfl) (SE.int) (SA.cons (sp rfl) (SE.int) (SA.nil)))) (SA.cons (sp rfl) (SE.int) (SA.cons (sp rfl) (SE.int) (SA.nil)))))))) (SR.nil)))) (SA.cons (sp rfl) (SE.varN n__law_race_runners) (SA.nil))))) (SB.nil)))
theorem D__law_race (T : Hd.TT K mg h) : Def1 P w K mg base "_law_race" 21 ["pool", "many"] [] (spF K Cd.m__law_race Cd.F__law_race) :=
  def1 T.tb (Hd.g__law_race T) 52 rfl rfl rfl rfl (fun _ _ _ _ _ _ us hl => match us, hl with | [_, _], _ => rfl) fun fd F => fn_ok F sc__law_race rfl (by decide) (b__law_race T)
abbrev N_Session_steps : List Str := ["self"]
theorem nd_Session_steps : (N_Session_steps).Nodup := by decide
theorem sc_Session_steps : FnScope N_Session_steps ["self"] (defScope Hd.s_Session_steps) := ⟨rfl, rfl, rfl, by decide +kernel, rfl, by decide +kernel, by decide +kernel⟩
theorem n_Session_steps_self : Nm N_Session_steps (defScope Hd.s_Session_steps) 0 "self" := ⟨rfl, by decide +kernel, by decide +kernel, by decide +kernel⟩
theorem b_Session_steps (T : Hd.TT K mg h) {f : Addr} : BodyD P w K mg base N_Session_steps "Session.steps" (defScope Hd.s_Session_steps) (defBody Hd.s_Session_steps) (f) 0 Cd.c_Session_steps := fun cdv A outer s H E hr hgd tk po =>
  have hu := Room.units hr
  SB.cons (SS.ret (SE.callT1 (cv_list rfl) (Hd.b_list T) (by decide +kernel) rfl (by decide) rfl (sp rfl) (bt rfl) (SV.pl (SPl.attr (Hd.cls_Session T) (Hd.na_Session_own_steps T) rfl (SPl.nameN n_Session_steps_self))))) (SB.nil)
theorem D_Session_steps (T : Hd.TT K mg h) : DefP P w K mg base "Session" "steps" 1 ["self"] (spF K Cd.m_Session_steps Cd.F_Session_steps) :=
  defp (p := ⟨"Session", "steps", Hd.d_Session_steps⟩) T (Hd.cls_Session T) 3 rfl rfl rfl (fun _ _ _ _ _ _ us hl => match us, hl with | [_], _ => rfl) fun f fd F => fn_ok F sc_Session_steps rfl (by decide) (b_Session_steps T)
abbrev N__law_same : List Str := ["session", "races", "clocks", "steps"]
theorem nd__law_same : (N__law_same).Nodup := by decide
theorem sc__law_same : FnScope N__law_same ["session", "races", "clocks", "steps"] (defScope Hd.s__law_same) := ⟨rfl, rfl, rfl, by decide +kernel, rfl, by decide +kernel, by decide +kernel⟩
theorem n__law_same_session : Nm N__law_same (defScope Hd.s__law_same) 0 "session" := ⟨rfl, by decide +kernel, by decide +kernel, by decide +kernel⟩
theorem n__law_same_races : Nm N__law_same (defScope Hd.s__law_same) 1 "races" := ⟨rfl, by decide +kernel, by decide +kernel, by decide +kernel⟩
theorem n__law_same_clocks : Nm N__law_same (defScope Hd.s__law_same) 2 "clocks" := ⟨rfl, by decide +kernel, by decide +kernel, by decide +kernel⟩
theorem n__law_same_steps : Nm N__law_same (defScope Hd.s__law_same) 3 "steps" := ⟨rfl, by decide +kernel, by decide +kernel, by decide +kernel⟩
theorem b__law_same (T : Hd.TT K mg h) : BodyD P w K mg base N__law_same "_law_same" (defScope Hd.s__law_same) (defBody Hd.s__law_same) (He.ga K "_law_same") 2 Cd.c__law_same := fun cdv A outer s H E hr hgd tk po =>
  have hu := Room.units hr
  SB.cons (SS.ite (ST.wp (SW.or (eq_ownT (neg := true) rfl (hr.mono (j := 2) (by decide)) hu hgd (D_Race___eq__ T) (Hd.ne_Race T) rfl (SE.propO (hr.mono (j := 2) (by decide)) hgd (D_Session_race T) rfl n__law_same_session) (SE.ixpN hu (fun _ _ => rfl) n__law_same_races (SE.v (SE.un uv_neg (SE.v (SE.int)))))) (SW.or1 (ST.cmpn (ov_ne hu) rfl (SE.propO (hr.mono (j := 2) (by decide)) hgd (D_Session_clock T) rfl n__law_same_session) (SE.v (SE.ixpN hu (fun _ _ => rfl) n__law_same_clocks (SE.v (SE.un uv_neg (SE.v (SE.int)))))))))) (SB.cons (SS.ret (SE.bl)) (SB.nil)) (SB.nil)) (SB.cons (SS.ite (ST.wp (SW.or (ST.cmpn (ov_ne hu) rfl (SE.propO (hr.mono (j := 2) (by decide)) hgd (D_Session_steps T) rfl n__law_same_session) (SV.pkN n__law_same_steps)) (SW.or1 (ST.cmpn (ov_ne hu) rfl (SE.lenOO (hr.mono (j := 2) (by decide)) hgd (D_Session___len__ T) (Hd.b_len T) rfl (sp rfl) (bt rfl) n__law_same_session) (SE.v (SE.callB1 cv_len (Hd.b_len T) (by decide +kernel) rfl (by decide) rfl (sp rfl) (bt rfl) (SV.pkN n__law_same_steps))))))) (SB.cons (SS.ret (SE.bl)) (SB.nil)) (SB.nil)) (SB.cons (SS.expr rfl (SE.appTmp rfl rfl rfl (sp rfl) (bt rfl) (SE.propO (hr.mono (j := 2) (by decide)) hgd (D_Session_steps T) rfl n__law_same_session) (SE.non))) (SB.cons (SS.ret (SE.cmpn (ov_eq hu) rfl (SE.propO (hr.mono (j := 2) (by decide)) hgd (D_Session_steps T) rfl n__law_same_session) (SV.pkN n__law_same_steps))) (SB.nil))))
theorem D__law_same (T : Hd.TT K mg h) : Def1 P w K mg base "_law_same" 3 ["session", "races", "clocks", "steps"] [] (spF K Cd.m__law_same Cd.F__law_same) :=
  def1 T.tb (Hd.g__law_same T) 54 rfl rfl rfl rfl (fun _ _ _ _ _ _ us hl => match us, hl with | [_, _, _, _], _ => rfl) fun fd F => fn_ok F sc__law_same rfl (by decide) (b__law_same T)
abbrev N_Race_names : List Str := ["self"]
theorem nd_Race_names : (N_Race_names).Nodup := by decide
theorem sc_Race_names : FnScope N_Race_names ["self"] (defScope Hd.s_Race_names) := ⟨rfl, rfl, rfl, by decide +kernel, rfl, by decide +kernel, by decide +kernel⟩
theorem n_Race_names_self : Nm N_Race_names (defScope Hd.s_Race_names) 0 "self" := ⟨rfl, by decide +kernel, by decide +kernel, by decide +kernel⟩
theorem b_Race_names (T : Hd.TT K mg h) : BodyD P w K mg base N_Race_names "Race.names" (defScope Hd.s_Race_names) (defBody Hd.s_Race_names) (He.ma K (He.ga K "Race") "names") 0 Cd.c_Race_names := fun cdv A outer s H E hr hgd tk po =>
  have hu := Room.units hr
  SB.cons (SS.ret (SE.callT1 (cv_list rfl) (Hd.b_list T) (by decide +kernel) rfl (by decide) rfl (sp rfl) (bt rfl) (SV.pl (SPl.attr (Hd.cls_Race T) (Hd.na_Race_own_runners T) rfl (SPl.nameN n_Race_names_self))))) (SB.nil)
theorem D_Race_names (T : Hd.TT K mg h) : DefM P w K mg base "Race" "names" 1 ["self"] [] (spF K Cd.m_Race_names Cd.F_Race_names) :=
  defm T.tb (Hd.cls_Race T) (Hd.m_Race_names T) 20 rfl rfl rfl rfl (fun _ _ _ _ _ _ us hl => match us, hl with | [_], _ => rfl) fun fd F => fn_ok F sc_Race_names rfl (by decide) (b_Race_names T)
abbrev N_Session_keep : List Str := ["self", "race", "clock", "step"]
theorem nd_Session_keep : (N_Session_keep).Nodup := by decide
theorem sc_Session_keep : FnScope N_Session_keep ["self", "race", "clock", "step"] (defScope Hd.s_Session_keep) := ⟨rfl, rfl, rfl, by decide +kernel, rfl, by decide +kernel, by decide +kernel⟩
theorem n_Session_keep_self : Nm N_Session_keep (defScope Hd.s_Session_keep) 0 "self" := ⟨rfl, by decide +kernel, by decide +kernel, by decide +kernel⟩
theorem n_Session_keep_race : Nm N_Session_keep (defScope Hd.s_Session_keep) 1 "race" := ⟨rfl, by decide +kernel, by decide +kernel, by decide +kernel⟩
theorem n_Session_keep_clock : Nm N_Session_keep (defScope Hd.s_Session_keep) 2 "clock" := ⟨rfl, by decide +kernel, by decide +kernel, by decide +kernel⟩
theorem n_Session_keep_step : Nm N_Session_keep (defScope Hd.s_Session_keep) 3 "step" := ⟨rfl, by decide +kernel, by decide +kernel, by decide +kernel⟩
theorem b_Session_keep (T : Hd.TT K mg h) : BodyD P w K mg base N_Session_keep "Session.keep" (defScope Hd.s_Session_keep) (defBody Hd.s_Session_keep) (He.ma K (He.ga K "Session") "keep") 0 Cd.c_Session_keep := fun cdv A outer s H E hr hgd tk po =>
  have hu := Room.units hr
  SB.cons (SS.expr rfl (SE.appendQ rfl rfl rfl (sp rfl) (bt rfl) (SPl.attr (Hd.cls_Session T) (Hd.na_Session_own_races T) rfl (SPl.nameN n_Session_keep_self)) (SQI.nameN n_Session_keep_race))) (SB.cons (SS.expr rfl (SE.appendQ rfl rfl rfl (sp rfl) (bt rfl) (SPl.attr (Hd.cls_Session T) (Hd.na_Session_own_clocks T) rfl (SPl.nameN n_Session_keep_self)) (SQI.nameN n_Session_keep_clock))) (SB.cons (SS.expr rfl (SE.appendQ rfl rfl rfl (sp rfl) (bt rfl) (SPl.attr (Hd.cls_Session T) (Hd.na_Session_own_steps T) rfl (SPl.nameN n_Session_keep_self)) (SQI.nameN n_Session_keep_step))) (SB.nil)))
theorem D_Session_keep (T : Hd.TT K mg h) : DefM P w K mg base "Session" "keep" 1 ["self", "race", "clock", "step"] [] (spF K Cd.m_Session_keep Cd.F_Session_keep) :=
  defm T.tb (Hd.cls_Session T) (Hd.m_Session_keep T) 41 rfl rfl rfl rfl (fun _ _ _ _ _ _ us hl => match us, hl with | [_, _, _, _], _ => rfl) fun fd F => fn_ok F sc_Session_keep rfl (by decide) (b_Session_keep T)
end
end Wk

namespace Wk
open PySem PySem.Spec PyProof.Rows L2 Dn Cd
section
variable {P : Program} {w : World} {K : PySem.W.Frag} {mg : Str → Option Value} {base h : Heap}
abbrev N_Session_advance : List Str := ["self", "time", "moment"]
theorem nd_Session_advance : (N_Session_advance).Nodup := by decide
theorem sc_Session_advance : FnScope N_Session_advance ["self", "time"] (defScope Hd.s_Session_advance) := ⟨rfl, rfl, rfl, by decide +kernel, rfl, by decide +kernel, by decide +kernel⟩
theorem n_Session_advance_self : Nm N_Session_advance (defScope Hd.s_Session_advance) 0 "self" := ⟨rfl, by decide +kernel, by decide +kernel, by decide +kernel⟩
theorem n_Session_advance_time : Nm N_Session_advance (defScope Hd.s_Session_advance) 1 "time" := ⟨rfl, by decide +kernel, by decide +kernel, by decide +kernel⟩
theorem n_Session_advance_moment : Nm N_Session_advance (defScope Hd.s_Session_advance) 2 "moment" := ⟨rfl, by decide +kernel, by decide +kernel, by decide +kernel⟩
theorem l_Session_advance_moment : Lc N_Session_advance (defScope Hd.s_Session_advance) 2 "moment" := ⟨rfl, by decide +kernel⟩
theorem b_Session_advance (T : Hd.TT K mg h) : BodyD P w K mg base N_Session_advance "Session.advance" (defScope Hd.s_Session_advance) (defBody Hd.s_Session_advance) (He.ma K (He.ga K "Session") "advance") 14 Cd.c_Session_advance := fun cdv A outer s H E hr hgd tk po =>
  have hu := Room.units hr
  SB.cons (SS.setN nd_Session_advance l_Session_advance_moment rfl rfl (Dn.SE.callP tk (hr.mono (j := 13) (by decide)) hgd (D_as_time T) rfl rfl (sp rfl) (bt rfl) (SA.cons (sp rfl) (SE.varN n_Session_advance_time) (SA.nil)))) (SB.cons (SS.ite (ST.cmpn ov_lt rfl (Dn.SE.callP tk (hr.mono (j := 11) (by decide)) hgd (D_compare T) rfl rfl (sp rfl) (bt rfl) (SA.cons (sp rfl) (SE.varN n_Session_advance_moment) (SA.cons (sp rfl) (SE.propO (hr.mono (j := 2) (by decide)) hgd (D_Session_clock T) rfl n_Session_advance_self) (SA.nil)))) (SE.v (SE.int))) (SB.cons (SS.no) (SB.nil)) (SB.nil)) (SB.cons (SS.expr rfl (SE.methON tk (hr.mono (j := 1) (by decide)) hgd (D_Session_keep T) (sp rfl) (bt rfl) rfl n_Session_advance_self (SR.dd (sp rfl) (SE.propO (hr.mono (j := 2) (by decide)) hgd (D_Session_race T) rfl n_Session_advance_self) (SR.dd (sp rfl) (SE.varN n_Session_advance_moment) (SR.dd (sp rfl) (SE.tup (SA.cons (sp rfl) (SE.str) (SA.cons (sp rfl) (SE.varN n_Session_advance_moment) (SA.nil)))) (SR.nil)))))) (SB.nil)))
theorem D_Session_advance (T : Hd.TT K mg h) : DefM P w K mg base "Session" "advance" 15 ["self", "time"] [] (spF K Cd.m_Session_advance Cd.F_Session_advance) :=
  defm T.tb (Hd.cls_Session T) (Hd.m_Session_advance T) 42 rfl rfl rfl rfl (fun _ _ _ _ _ _ us hl => match us, hl with | [_, _], _ => rfl) fun fd F => fn_ok F sc_Session_advance rfl (by decide) (b_Session_advance T)
abbrev N_Session_set_speed : List Str := ["self", "name", "speed", "race"]
theorem nd_Session_set_speed : (N_Session_set_speed).Nodup := by decide
theorem sc_Session_set_speed : FnScope N_Session_set_speed ["self", "name", "speed"] (defScope Hd.s_Session_set_speed) := ⟨rfl, rfl, rfl, by decide +kernel, rfl, by decide +kernel, by decide +kernel⟩
theorem n_Session_set_speed_self : Nm N_Session_set_speed (defScope Hd.s_Session_set_speed) 0 "self" := ⟨rfl, by decide +kernel, by decide +kernel, by decide +kernel⟩
theorem n_Session_set_speed_name : Nm N_Session_set_speed (defScope Hd.s_Session_set_speed) 1 "name" := ⟨rfl, by decide +kernel, by decide +kernel, by decide +kernel⟩
theorem n_Session_set_speed_speed : Nm N_Session_set_speed (defScope Hd.s_Session_set_speed) 2 "speed" := ⟨rfl, by decide +kernel, by decide +kernel, by decide +kernel⟩
theorem n_Session_set_speed_race : Nm N_Session_set_speed (defScope Hd.s_Session_set_speed) 3 "race" := ⟨rfl, by decide +kernel, by decide +kernel, by decide +kernel⟩
theorem l_Session_set_speed_race : Lc N_Session_set_speed (defScope Hd.s_Session_set_speed) 3 "race" := ⟨rfl, by decide +kernel⟩
theorem b_Session_set_speed (T : Hd.TT K mg h) : BodyD P w K mg base N_Session_set_speed "Session.set_speed" (defScope Hd.s_Session_set_speed) (defBody Hd.s_Session_set_speed) (He.ma K (He.ga K "Session") "set_speed") 24 Cd.c_Session_set_speed := fun cdv A outer s H E hr hgd tk po =>
  have hu := Room.units hr
  SB.cons (SS.setN nd_Session_set_speed l_Session_set_speed_race rfl rfl (SE.methP tk (hr.mono (j := 23) (by decide)) hgd (D_Race_changed T) (sp rfl) (bt rfl) rfl (SE.propO (hr.mono (j := 2) (by decide)) hgd (D_Session_race T) rfl n_Session_set_speed_self) (SA.cons (sp rfl) (SE.varN n_Session_set_speed_name) (SA.cons (sp rfl) (SE.propO (hr.mono (j := 2) (by decide)) hgd (D_Session_clock T) rfl n_Session_set_speed_self) (SA.cons (sp rfl) (SE.varN n_Session_set_speed_speed) (SA.nil)))))) (SB.cons (SS.expr rfl (SE.methON tk (hr.mono (j := 1) (by decide)) hgd (D_Session_keep T) (sp rfl) (bt rfl) rfl n_Session_set_speed_self (SR.dd (sp rfl) (SE.varN n_Session_set_speed_race) (SR.dd (sp rfl) (SE.propO (hr.mono (j := 2) (by decide)) hgd (D_Session_clock T) rfl n_Session_set_speed_self) (SR.dd (sp rfl) (SE.tup (SA.cons (sp rfl) (SE.str) (SA.cons (sp rfl) (SE.varN n_Session_set_speed_name) (SA.cons (sp rfl) (Dn.SE.callP tk (hr.mono (j := 7) (by decide)) hgd (D_as_ratio T) rfl rfl (sp rfl) (bt rfl) (SA.cons (sp rfl) (SE.varN n_Session_set_speed_speed) (SA.nil))) (SA.nil))))) (SR.nil)))))) (SB.nil))
theorem D_Session_set_speed (T : Hd.TT K mg h) : DefM P w K mg base "Session" "set_speed" 25 ["self", "name", "speed"] [] (spF K Cd.m_Session_set_speed Cd.F_Session_set_speed) :=
  defm T.tb (Hd.cls_Session T) (Hd.m_Session_set_speed T) 43 rfl rfl rfl rfl (fun _ _ _ _ _ _ us hl => match us, hl with | [_, _, _], _ => rfl) fun fd F => fn_ok F sc_Session_set_speed rfl (by decide) (b_Session_set_speed T)
abbrev N_Session_stop : List Str := ["self", "name"]
theorem nd_Session_stop : (N_Session_stop).Nodup := by decide
theorem sc_Session_stop : FnScope N_Session_stop ["self", "name"] (defScope Hd.s_Session_stop) := ⟨rfl, rfl, rfl, by decide +kernel, rfl, by decide +kernel, by decide +kernel⟩
theorem n_Session_stop_self : Nm N_Session_stop (defScope Hd.s_Session_stop) 0 "self" := ⟨rfl, by decide +kernel, by decide +kernel, by decide +kernel⟩
theorem n_Session_stop_name : Nm N_Session_stop (defScope Hd.s_Session_stop) 1 "name" := ⟨rfl, by decide +kernel, by decide +kernel, by decide +kernel⟩
theorem b_Session_stop (T : Hd.TT K mg h) : BodyD P w K mg base N_Session_stop "Session.stop" (defScope Hd.s_Session_stop) (defBody Hd.s_Session_stop) (He.ma K (He.ga K "Session") "stop") 26 Cd.c_Session_stop := fun cdv A outer s H E hr hgd tk po =>
  have hu := Room.units hr
  SB.cons (SS.expr rfl (SE.methON tk (hr.mono (j := 25) (by decide)) hgd (D_Session_set_speed T) (sp rfl) (bt rfl) rfl n_Session_stop_self (SR.dd (sp rfl) (SE.varN n_Session_stop_name) (SR.dd (sp rfl) (SE.int) (SR.nil))))) (SB.nil)
theorem D_Session_stop (T : Hd.TT K mg h) : DefM P w K mg base "Session" "stop" 27 ["self", "name"] [] (spF K Cd.m_Session_stop Cd.F_Session_stop) :=
  defm T.tb (Hd.cls_Session T) (Hd.m_Session_stop T) 44 rfl rfl rfl rfl (fun _ _ _ _ _ _ us hl => match us, hl with | [_, _], _ => rfl) fun fd F => fn_ok F sc_Session_stop rfl (by decide) (b_Session_stop T)
abbrev N__law_step : List Str := ["pool", "session", "way", "moment", "name", "speed"]
theorem nd__law_step : (N__law_step).Nodup := by decide
theorem sc__law_step : FnScope N__law_step ["pool", "session"] (defScope Hd.s__law_step) := ⟨rfl, rfl, rfl, by decide +kernel, rfl, by decide +kernel, by decide +kernel⟩
theorem n__law_step_pool : Nm N__law_step (defScope Hd.s__law_step) 0 "pool" := ⟨rfl, by decide +kernel, by decide +kernel, by decide +kernel⟩
theorem n__law_step_session : Nm N__law_step (defScope Hd.s__law_step) 1 "session" := ⟨rfl, by decide +kernel, by decide +kernel, by decide +kernel⟩
theorem n__law_step_way : Nm N__law_step (defScope Hd.s__law_step) 2 "way" := ⟨rfl, by decide +kernel, by decide +kernel, by decide +kernel⟩
theorem l__law_step_way : Lc N__law_step (defScope Hd.s__law_step) 2 "way" := ⟨rfl, by decide +kernel⟩
theorem n__law_step_moment : Nm N__law_step (defScope Hd.s__law_step) 3 "moment" := ⟨rfl, by decide +kernel, by decide +kernel, by decide +kernel⟩
theorem l__law_step_moment : Lc N__law_step (defScope Hd.s__law_step) 3 "moment" := ⟨rfl, by decide +kernel⟩
theorem n__law_step_name : Nm N__law_step (defScope Hd.s__law_step) 4 "name" := ⟨rfl, by decide +kernel, by decide +kernel, by decide +kernel⟩
theorem n__law_step_speed : Nm N__law_step (defScope Hd.s__law_step) 5 "speed" := ⟨rfl, by decide +kernel, by decide +kernel, by decide +kernel⟩
theorem b__law_step (T : Hd.TT K mg h) : BodyD P w K mg base N__law_step "_law_step" (defScope Hd.s__law_step) (defBody Hd.s__law_step) (He.ga K "_law_step") 28 Cd.c__law_step := fun cdv A outer s H E hr hgd tk po =>
  have hu := Room.units hr
  SB.cons (SS.setN nd__law_step l__law_step_way rfl rfl (SE.callO tk (hr.mono (j := 1) (by decide)) hgd (D__law_draw T) rfl rfl (sp rfl) (bt rfl) (SR.oN (sp rfl) n__law_step_pool (SR.dd (sp rfl) (SE.int) (SR.nil))))) (SB.cons (SS.ite (ST.cmppN (ov_eq hu) rfl n__law_step_way (SE.v (SE.int))) (SB.cons (SS.setN nd__law_step l__law_step_moment rfl rfl (Dn.SE.callP tk (hr.mono (j := 9) (by decide)) hgd (D_plus T) rfl rfl (sp rfl) (bt rfl) (SA.cons (sp rfl) (SE.propO (hr.mono (j := 2) (by decide)) hgd (D_Session_clock T) rfl n__law_step_session) (SA.cons (sp rfl) (SE.callO tk (hr.mono (j := 5) (by decide)) hgd (D__law_number T) rfl rfl (sp rfl) (bt rfl) (SR.oN (sp rfl) n__law_step_pool (SR.dd (sp rfl) (SE.int) (SR.dd (sp rfl) (SE.int) (SR.nil))))) (SA.nil))))) (SB.cons (SS.expr rfl (SE.methON tk (hr.mono (j := 15) (by decide)) hgd (D_Session_advance T) (sp rfl) (bt rfl) rfl n__law_step_session (SR.dd (sp rfl) (SE.varN n__law_step_moment) (SR.nil)))) (SB.cons (SS.ret (SE.tup (SA.cons (sp rfl) (SE.str) (SA.cons (sp rfl) (SE.varN n__law_step_moment) (SA.nil))))) (SB.nil)))) (SB.nil)) (SB.cons (SS.par2 rfl nd__law_step rfl rfl (by decide) rfl rfl rfl rfl (sp rfl) (sp rfl) (SE.callO tk (hr.mono (j := 3) (by decide)) hgd (D__law_choose T) rfl rfl (sp rfl) (bt rfl) (SR.oN (sp rfl) n__law_step_pool (SR.dd (sp rfl) (SE.methP0 tk (hr.mono (j := 1) (by decide)) hgd (D_Race_names T) rfl (SE.propO (hr.mono (j := 2) (by decide)) hgd (D_Session_race T) rfl n__law_step_session)) (SR.nil)))) (SE.callO tk (hr.mono (j := 5) (by decide)) hgd (D__law_number T) rfl rfl (sp rfl) (bt rfl) (SR.oN (sp rfl) n__law_step_pool (SR.dd (sp rfl) (SE.un uv_neg (SE.v (SE.int))) (SR.dd (sp rfl) (SE.int) (SR.nil)))))) (SB.cons (SS.ite (ST.cmppN (ov_eq hu) rfl n__law_step_way (SE.v (SE.int))) (SB.cons (SS.expr rfl (SE.methON tk (hr.mono (j := 27) (by decide)) hgd (D_Session_stop T) (sp rfl) (bt rfl) rfl n__law_step_session (SR.dd (sp rfl) (SE.varN n__law_step_name) (SR.nil)))) (SB.cons (SS.ret (SE.tup (SA.cons (sp rfl) (SE.str) (SA.cons (sp rfl) (SE.varN n__law_step_name) (SA.cons (sp rfl) (SE.tup (SA.cons (sp rfl) (SE.int) (SA.cons (sp rfl) (SE.int) (SA.nil)))) (SA.nil)))))) (SB.nil))) (SB.nil)) (SB.cons (SS.expr rfl (SE.methON tk (hr.mono (j := 25) (by decide)) hgd (D_Session_set_speed T) (sp rfl) (bt rfl) rfl n__law_step_session (SR.dd (sp rfl) (SE.varN n__law_step_name) (SR.dd (sp rfl) (SE.varN n__law_step_speed) (SR.nil))))) (SB.cons (SS.ret (SE.tup (SA.cons (sp rfl) (SE.str) (SA.cons (sp rfl) (SE.varN n__law_step_name) (SA.cons (sp rfl) (Dn.SE.callP tk (hr.mono (j := 9) (by decide)) hgd (D_plus T) rfl rfl (sp rfl) (bt rfl) (SA.cons (sp rfl) (SE.varN n__law_step_speed) (SA.cons (sp rfl) (SE.int) (SA.nil)))) (SA.nil)))))) (SB.nil))))))
theorem D__law_step (T : Hd.TT K mg h) : Def1 P w K mg base "_law_step" 29 ["pool", "session"] [] (spF K Cd.m__law_step Cd.F__law_step) :=
  def1 T.tb (Hd.g__law_step T) 53 rfl rfl rfl rfl (fun _ _ _ _ _ _ us hl => match us, hl with | [_, _], _ => rfl) fun fd F => fn_ok F sc__law_step rfl (by decide) (b__law_step T)
abbrev N_law : List Str := ["script", "k", "pool", "race", "session", "races", "clocks", "steps", "turn", "step"]
theorem nd_law : (N_law).Nodup := by decide
theorem sc_law : FnScope N_law ["script"] (defScope Hd.s_law) := ⟨rfl, rfl, rfl, by decide +kernel, rfl, by decide +kernel, by decide +kernel⟩
theorem n_law_script : Nm N_law (defScope Hd.s_law) 0 "script" := ⟨rfl, by decide +kernel, by decide +kernel, by decide +kernel⟩
theorem n_law_k : Nm N_law (defScope Hd.s_law) 1 "k" := ⟨rfl, by decide +kernel, by decide +kernel, by decide +kernel⟩
theorem l_law_k : Lc N_law (defScope Hd.s_law) 1 "k" := ⟨rfl, by decide +kernel⟩
theorem n_law_pool : Nm N_law (defScope Hd.s_law) 2 "pool" := ⟨rfl, by decide +kernel, by decide +kernel, by decide +kernel⟩
theorem l_law_pool : Lc N_law (defScope Hd.s_law) 2 "pool" := ⟨rfl, by decide +kernel⟩
theorem n_law_race : Nm N_law (defScope Hd.s_law) 3 "race" := ⟨rfl, by decide +kernel, by decide +kernel, by decide +kernel⟩
theorem l_law_race : Lc N_law (defScope Hd.s_law) 3 "race" := ⟨rfl, by decide +kernel⟩
theorem n_law_session : Nm N_law (defScope Hd.s_law) 4 "session" := ⟨rfl, by decide +kernel, by decide +kernel, by decide +kernel⟩
theorem l_law_session : Lc N_law (defScope Hd.s_law) 4 "session" := ⟨rfl, by decide +kernel⟩
theorem n_law_races : Nm N_law (defScope Hd.s_law) 5 "races" := ⟨rfl, by decide +kernel, by decide +kernel, by decide +kernel⟩
theorem n_law_clocks : Nm N_law (defScope Hd.s_law) 6 "clocks" := ⟨rfl, by decide +kernel, by decide +kernel, by decide +kernel⟩
theorem n_law_steps : Nm N_law (defScope Hd.s_law) 7 "steps" := ⟨rfl, by decide +kernel, by decide +kernel, by decide +kernel⟩
theorem l_law_turn : Lc N_law (defScope Hd.s_law) 8 "turn" := ⟨rfl, by decide +kernel⟩
theorem n_law_step : Nm N_law (defScope Hd.s_law) 9 "step" := ⟨rfl, by decide +kernel, by decide +kernel, by decide +kernel⟩
theorem l_law_step : Lc N_law (defScope Hd.s_law) 9 "step" := ⟨rfl, by decide +kernel⟩
theorem b_law_0 (T : Hd.TT K mg h) : BodyD P w K mg base N_law "law" (defScope Hd.s_law) (foB (atB (foB (atB (defBody Hd.s_law) 0)) 4)) (He.ga K "law") 30 Cd.c_law_0 := fun cdv A outer s H E hr hgd tk po =>
  have hu := Room.units hr
  SB.cons (SS.ite (ST.wp (SW.and (ST.cmppN (ov_ne hu) rfl n_law_steps (SE.v (SE.lst (SA.nil)))) (SW.and1 (ST.cmpn (ov_eq hu) rfl (SE.callO tk (hr.mono (j := 1) (by decide)) hgd (D__law_draw T) rfl rfl (sp rfl) (bt rfl) (SR.oN (sp rfl) n_law_pool (SR.dd (sp rfl) (SE.int) (SR.nil)))) (SE.v (SE.int)))))) (SB.cons (SS.ite (ST.cmpn (ov_ne hu) rfl (SE.methO0N tk (hr.mono (j := 1) (by decide)) hgd (D_Session_undo T) rfl n_law_session) (SE.v (SE.pop rfl rfl (SPl.nameN n_law_steps)))) (SB.cons (SS.ret (SE.bl)) (SB.nil)) (SB.nil)) (SB.cons (SS.expr rfl (SE.pop rfl rfl (SPl.nameN n_law_races))) (SB.cons (SS.expr rfl (SE.pop rfl rfl (SPl.nameN n_law_clocks))) (SB.nil)))) (SB.cons (SS.setN nd_law l_law_step rfl rfl (SE.callO tk (hr.mono (j := 29) (by decide)) hgd (D__law_step T) rfl rfl (sp rfl) (bt rfl) (SR.oN (sp rfl) n_law_pool (SR.oN (sp rfl) n_law_session (SR.nil))))) (SB.cons (SS.expr rfl (SE.append rfl rfl rfl (sp rfl) (bt rfl) (SPl.nameN n_law_steps) (SE.varN n_law_step))) (SB.cons (SS.ite (ST.cmpn (ov_eq hu) rfl (SE.ixpN hu (fun _ _ => rfl) n_law_step (SE.v (SE.int))) (SE.v (SE.str))) (SB.cons (SS.expr rfl (SE.append rfl rfl rfl (sp rfl) (bt rfl) (SPl.nameN n_law_races) (SE.ixpN hu (fun _ _ => rfl) n_law_races (SE.v (SE.un uv_neg (SE.v (SE.int))))))) (SB.cons (SS.expr rfl (SE.append rfl rfl rfl (sp rfl) (bt rfl) (SPl.nameN n_law_clocks) (SE.ixpN hu (fun _ _ => rfl) n_law_step (SE.v (SE.int))))) (SB.nil))) (SB.cons (SS.expr rfl (SE.append rfl rfl rfl (sp rfl) (bt rfl) (SPl.nameN n_law_races) (SE.methP tk (hr.mono (j := 23) (by decide)) hgd (D_Race_changed T) (sp rfl) (bt rfl) rfl (SE.ixpN hu (fun _ _ => rfl) n_law_races (SE.v (SE.un uv_neg (SE.v (SE.int))))) (SA.cons (sp rfl) (SE.ixpN hu (fun _ _ => rfl) n_law_step (SE.v (SE.int))) (SA.cons (sp rfl) (SE.ixpN hu (fun _ _ => rfl) n_law_clocks (SE.v (SE.un uv_neg (SE.v (SE.int))))) (SA.cons (sp rfl) (SE.ixpN hu (fun _ _ => rfl) n_law_step (SE.v (SE.int))) (SA.nil))))))) (SB.cons (SS.expr rfl (SE.append rfl rfl rfl (sp rfl) (bt rfl) (SPl.nameN n_law_clocks) (SE.ixpN hu (fun _ _ => rfl) n_law_clocks (SE.v (SE.un uv_neg (SE.v (SE.int))))))) (SB.nil)))) (SB.nil))))) (SB.cons (SS.ite (ST.not (ST.tru (fun _ => rfl) (SE.v (SE.callO tk (hr.mono (j := 3) (by decide)) hgd (D__law_same T) rfl rfl (sp rfl) (bt rfl) (SR.oN (sp rfl) n_law_session (SR.oN (sp rfl) n_law_races (SR.oN (sp rfl) n_law_clocks (SR.oN (sp rfl) n_law_steps (SR.nil))))))))) (SB.cons (SS.ret (SE.bl)) (SB.nil)) (SB.nil)) (SB.nil))
theorem b_law_1 (T : Hd.TT K mg h) : BodyD P w K mg base N_law "law" (defScope Hd.s_law) (whB (atB (foB (atB (defBody Hd.s_law) 0)) 5)) (He.ga K "law") 30 Cd.c_law_1 := fun cdv A outer s H E hr hgd tk po =>
  have hu := Room.units hr
  SB.cons (SS.expr rfl (SE.methO0N tk (hr.mono (j := 1) (by decide)) hgd (D_Session_undo T) rfl n_law_session)) (SB.nil)
theorem b_law_2 (T : Hd.TT K mg h) : BodyD P w K mg base N_law "law" (defScope Hd.s_law) (foB (atB (defBody Hd.s_law) 0)) (He.ga K "law") 30 Cd.c_law_2 := fun cdv A outer s H E hr hgd tk po =>
  have hu := Room.units hr
  SB.cons (SS.setN nd_law l_law_pool rfl rfl (Dn.SE.callP tk (hr.mono (j := 1) (by decide)) hgd (D__law_pool T) rfl rfl (sp rfl) (bt rfl) (SA.cons (sp rfl) (SE.varN n_law_script) (SA.cons (sp rfl) (SE.varN n_law_k) (SA.nil))))) (SB.cons (SS.setN nd_law l_law_race rfl rfl (SE.callO tk (hr.mono (j := 21) (by decide)) hgd (D__law_race T) rfl rfl (sp rfl) (bt rfl) (SR.oN (sp rfl) n_law_pool (SR.dd (sp rfl) (SE.bn ov_add (SE.int) (SE.v (SE.callO tk (hr.mono (j := 1) (by decide)) hgd (D__law_draw T) rfl rfl (sp rfl) (bt rfl) (SR.oN (sp rfl) n_law_pool (SR.dd (sp rfl) (SE.int) (SR.nil)))))) (SR.nil))))) (SB.cons (SS.setN nd_law l_law_session rfl rfl (SE.mk tk (hr.mono (j := 2) (by decide)) hgd (D_Session___init__ T) rfl rfl (sp rfl) (bt rfl) (SA.cons (sp rfl) (SE.varN n_law_race) (SA.nil)))) (SB.cons (SS.par3T rfl nd_law rfl rfl rfl (by decide) (by decide) (by decide) rfl rfl rfl rfl rfl (sp rfl) (sp rfl) (sp rfl) (SE.lst (SA.cons (sp rfl) (SE.varN n_law_race) (SA.nil))) (SE.lst (SA.cons (sp rfl) (SE.tup (SA.cons (sp rfl) (SE.int) (SA.cons (sp rfl) (SE.int) (SA.nil)))) (SA.nil))) (SE.lst (SA.nil))) (SB.cons (SS.for po rfl (fun _ => rfl) (SI.rng1 rfl (Hd.b_range T) (sp rfl) (SA.cons (sp rfl) (SE.int) (SA.nil))) (SG.nameN nd_law l_law_turn rfl) ((b_law_0 T cdv A outer s H E hr hgd tk po))) (SB.cons (SS.while po (ST.cmpn ov_gt rfl (SE.lenOO (hr.mono (j := 2) (by decide)) hgd (D_Session___len__ T) (Hd.b_len T) rfl (sp rfl) (bt rfl) n_law_session) (SE.v (SE.int))) ((b_law_1 T cdv A outer s H E hr hgd tk po))) (SB.cons (SS.ite (ST.wp (SW.or (eq_ownT (neg := true) rfl (hr.mono (j := 2) (by decide)) hu hgd (D_Race___eq__ T) (Hd.ne_Race T) rfl (SE.propO (hr.mono (j := 2) (by decide)) hgd (D_Session_race T) rfl n_law_session) (SE.varN n_law_race)) (SW.or1 (ST.cmpn (ov_ne hu) rfl (SE.propO (hr.mono (j := 2) (by decide)) hgd (D_Session_clock T) rfl n_law_session) (SE.v (SE.tup (SA.cons (sp rfl) (SE.int) (SA.cons (sp rfl) (SE.int) (SA.nil))))))))) (SB.cons (SS.ret (SE.bl)) (SB.nil)) (SB.nil)) (SB.nil)))))))
theorem b_law (T : Hd.TT K mg h) : BodyD P w K mg base N_law "law" (defScope Hd.s_law) (defBody Hd.s_law) (He.ga K "law") 30 Cd.c_law := fun cdv A outer s H E hr hgd tk po =>
  have hu := Room.units hr
  SB.cons (SS.for po rfl (fun _ => rfl) (SI.rng1 rfl (Hd.b_range T) (sp rfl) (SA.cons (sp rfl) (SE.callBs (cv_max2 rfl) (Hd.b_max T) (by decide +kernel) rfl (by decide) rfl (sp rfl) (bt rfl) (SA.cons (sp rfl) (SE.int) (SA.cons (sp rfl) (SE.callBs (cv_min2 rfl) (Hd.b_min T) (by decide +kernel) rfl (by decide) rfl (sp rfl) (bt rfl) (SA.cons (sp rfl) (SE.callB1 cv_len (Hd.b_len T) (by decide +kernel) rfl (by decide) rfl (sp rfl) (bt rfl) (SV.pkN n_law_script)) (SA.cons (sp rfl) (SE.int) (SA.nil)))) (SA.nil)))) (SA.nil))) (SG.nameN nd_law l_law_k rfl) ((b_law_2 T cdv A outer s H E hr hgd tk po))) (SB.cons (SS.ret (SE.bl)) (SB.nil))
end
end Wk

namespace Mq
theorem cross {t b : Int} {q : Rat} (hb : b ≠ 0) (h : Rat.divInt t b = q) : q.num * b = t * q.den := by
  have hd : (q.den : Int) ≠ 0 := by have := q.den_pos; omega
  rw [← Rat.num_divInt_den q] at h
  have := (Rat.divInt_eq_divInt_iff hb hd).mp h
  exact this.symm
theorem lt_parts (p q : Rat) : p < q ↔ p.num * q.den - q.num * p.den < 0 := by
  rw [Rat.lt_iff]; omega
theorem cmp_apart (p q : Rat) : cmpQ p q = (if decide ((0 : Int) < p.num * q.den - q.num * p.den) = true then (1 : Int) else 0) - (if decide (p.num * q.den - q.num * p.den < 0) = true then (1 : Int) else 0) := by
  have h1 := lt_parts p q
  have h2 := lt_parts q p
  unfold cmpQ
  simp only [decide_eq_true_eq]
  generalize p.num * (q.den : Int) = x at h1 h2
  generalize q.num * (p.den : Int) = y at h1 h2
  by_cases a : p < q
  · have := h1.mp a
    rw [if_pos a, if_neg (by omega), if_pos (by omega)]; rfl
  · rw [if_neg a]
    have n1 : ¬ (x - y < 0) := fun z => a (h1.mpr z)
    by_cases b : q < p
    · have := h2.mp b
      rw [if_pos b, if_pos (by omega), if_neg n1]; rfl
    · have n2 : ¬ (y - x < 0) := fun z => b (h2.mpr z)
      rw [if_neg b, if_neg (by omega), if_neg n1]; rfl
theorem floor_parts (q : Rat) : q.floor * q.den ≤ q.num ∧ q.num < (q.floor + 1) * q.den := by
  have hd : (0 : Int) < q.den := by have := q.den_pos; omega
  rw [Rat.floor_def]
  exact ⟨Int.ediv_mul_le _ (by omega), Int.lt_ediv_add_one_mul_self _ hd⟩
theorem div_mul (p : Rat) {q : Rat} (h : q ≠ 0) : p / q * q = p := Rat.div_mul_cancel h
theorem many_eq (p : Rat) {q : Rat} (h : q ≠ 0) : (p - rem p q) / q = ((p / q).floor : Int) := by
  unfold rem
  have e : p - (p - q * (((p / q).floor : Int) : Rat)) = (((p / q).floor : Int) : Rat) * q := by
    rw [Rat.sub_eq_add_neg, Rat.sub_eq_add_neg, Rat.neg_add, Rat.neg_neg, ← Rat.add_assoc, Rat.add_neg_cancel, Rat.zero_add, Rat.mul_comm]
  rw [e, Rat.div_def, Rat.mul_assoc, Rat.mul_inv_cancel _ h, Rat.mul_one]
theorem rem_nonneg (p : Rat) {q : Rat} (h : 0 < q) : 0 ≤ rem p q := by
  unfold rem
  have h0 : q ≠ 0 := fun z => by rw [z] at h; exact absurd h (by decide)
  have h1 : (((p / q).floor : Int) : Rat) ≤ p / q := Rat.floor_le _
  have h2 := Rat.mul_le_mul_of_nonneg_left h1 (Rat.le_of_lt h)
  have h3 : q * (p / q) = p := by rw [Rat.mul_comm]; exact Rat.div_mul_cancel h0
  rw [h3] at h2
  exact Rat.le_iff_sub_nonneg _ _ |>.mp h2
theorem rem_lt (p : Rat) {q : Rat} (h : 0 < q) : rem p q < q := by
  unfold rem
  have h0 : q ≠ 0 := fun z => by rw [z] at h; exact absurd h (by decide)
  have h1 : p / q < (((p / q).floor + 1 : Int) : Rat) := Rat.lt_floor_add_one _
  have h2 := Rat.mul_lt_mul_of_pos_right h1 h
  rw [Rat.div_mul_cancel h0, Rat.intCast_add, Rat.add_mul] at h2
  rw [← Rat.not_le] at h2 ⊢
  intro z
  apply h2
  rw [Rat.le_iff_sub_nonneg] at z ⊢
  have e : p - ((((p / q).floor : Int) : Rat) * q + ((1 : Int) : Rat) * q) = p - q * (((p / q).floor : Int) : Rat) - q := by
    rw [Rat.sub_eq_add_neg, Rat.sub_eq_add_neg, Rat.sub_eq_add_neg, Rat.neg_add, ← Rat.add_assoc, Rat.mul_comm q, Rat.intCast_one, Rat.one_mul]
  rw [e]; exact z
end Mq

open PySem
namespace Mq
theorem rlt_le {p q r : Rat} (h1 : p < q) (h2 : q ≤ r) : p < r := Rat.not_le.mp fun z => absurd h1 (Rat.not_lt.mpr (Rat.le_trans h2 z))
theorem rle_lt {p q r : Rat} (h1 : p ≤ q) (h2 : q < r) : p < r := Rat.not_le.mp fun z => absurd h2 (Rat.not_lt.mpr (Rat.le_trans z h1))
/-! ### numbers in order -/
noncomputable def ordQ (qs : List Rat) : List Rat := Classical.choose (rsort qs)
theorem ordQ_pw (qs : List Rat) : (ordQ qs).Pairwise (· < ·) := (Classical.choose_spec (rsort qs)).1
theorem ordQ_mem {qs : List Rat} {q : Rat} : q ∈ ordQ qs ↔ q ∈ qs := (Classical.choose_spec (rsort qs)).2.1 q
theorem ordQ_len (qs : List Rat) : (ordQ qs).length ≤ qs.length := (Classical.choose_spec (rsort qs)).2.2
theorem srt_uniq : ∀ {xs ys : List Rat}, xs.Pairwise (· < ·) → ys.Pairwise (· < ·) → (∀ q, q ∈ xs ↔ q ∈ ys) → xs = ys
  | [], [], _, _, _ => rfl
  | [], y :: ys, _, _, h => absurd ((h y).mpr List.mem_cons_self) List.not_mem_nil
  | x :: xs, [], _, _, h => absurd ((h x).mp List.mem_cons_self) List.not_mem_nil
  | x :: xs, y :: ys, hx, hy, h => by
    obtain ⟨a1, b1⟩ := List.pairwise_cons.mp hx
    obtain ⟨a2, b2⟩ := List.pairwise_cons.mp hy
    have e : x = y := by
      rcases List.mem_cons.mp ((h x).mp List.mem_cons_self) with e | m1
      · exact e
      · rcases List.mem_cons.mp ((h y).mpr List.mem_cons_self) with e | m2
        · exact e.symm
        · exact absurd (rlt_trans (a1 _ m2) (a2 _ m1)) Rat.lt_irrefl
    subst e
    rw [srt_uniq b1 b2 fun q => ?_]
    constructor
    · intro hq
      rcases List.mem_cons.mp ((h q).mp (List.mem_cons_of_mem _ hq)) with e | m
      · exact absurd (e ▸ a1 _ hq) Rat.lt_irrefl
      · exact m
    · intro hq
      rcases List.mem_cons.mp ((h q).mpr (List.mem_cons_of_mem _ hq)) with e | m
      · exact absurd (e ▸ a2 _ hq) Rat.lt_irrefl
      · exact m
theorem ordQ_id {qs : List Rat} (h : qs.Pairwise (· < ·)) : ordQ qs = qs := srt_uniq (ordQ_pw qs) h fun _ => ordQ_mem
/-! ### positions -/
abbrev Pcs := List (Rat × Rat)
def pT (ps : Pcs) (i : Nat) : Rat := (ps.getD i (0, 0)).1
def pV (ps : Pcs) (i : Nat) : Rat := (ps.getD i (0, 0)).2
/-- where the i-th piece is left, up to t -/
def stopQ (ps : Pcs) (t : Rat) (i : Nat) : Rat := if i + 1 < ps.length ∧ pT ps (i + 1) < t then pT ps (i + 1) else t
def stepQ (b e v : Rat) (x : Rat) : Rat := if b < e then x + v * (e - b) else x
/-- the position behind the first i pieces -/
def posI (q : Rat) (ps : Pcs) (t : Rat) : Nat → Rat
  | 0 => q
  | i + 1 => stepQ (pT ps i) (stopQ ps t i) (pV ps i) (posI q ps t i)
def posQ (q : Rat) (ps : Pcs) (t : Rat) : Rat := posI q ps t ps.length
structure PzOk (a : Nat) (ps : Pcs) : Prop where
  l1 : 1 ≤ ps.length
  z : ∀ p ∈ ps, Sz a p.1 ∧ Sz a p.2
  p : ∀ p ∈ ps, 0 ≤ p.1
  h : pT ps 0 = 0
  lt : (ps.map (·.1)).Pairwise (· < ·)
theorem getD_mem {α : Type} {xs : List α} {z : α} {i : Nat} (h : i < xs.length) : xs.getD i z ∈ xs := by
  rw [List.getD_eq_getElem?_getD, List.getElem?_eq_getElem h]; exact List.getElem_mem _
section
variable {a b c : Nat} {q t : Rat} {ps : Pcs}
theorem PzOk.up {a b : Nat} (h : PzOk a ps) (l : a ≤ b) : PzOk b ps := ⟨h.l1, fun p hp => ⟨(h.z p hp).1.up l, (h.z p hp).2.up l⟩, h.p, h.h, h.lt⟩
theorem PzOk.z0 (h : PzOk a ps) : Sz a 0 := by
  have := (h.z _ (getD_mem (z := (0, 0)) h.l1)).1.pos
  have h2 : 1 < 2 ^ a := Nat.one_lt_two_pow (by omega)
  exact ⟨by show 0 < _; omega, by show 1 < _; omega⟩
theorem PzOk.ztv (h : PzOk a ps) (i : Nat) : Sz a (pT ps i) ∧ Sz a (pV ps i) := by
  by_cases hi : i < ps.length
  · exact h.z _ (getD_mem hi)
  · have e : ps.getD i (0, 0) = (0, 0) := by rw [List.getD_eq_getElem?_getD, List.getElem?_eq_none (by omega)]; rfl
    unfold pT pV
    rw [e]; exact ⟨h.z0, h.z0⟩
theorem PzOk.zt (h : PzOk a ps) (i : Nat) : Sz a (pT ps i) := (h.ztv i).1
theorem PzOk.zv (h : PzOk a ps) (i : Nat) : Sz a (pV ps i) := (h.ztv i).2
theorem PzOk.pt (h : PzOk a ps) {i : Nat} (hi : i < ps.length) : 0 ≤ pT ps i := h.p _ (getD_mem hi)
theorem pT_get {i : Nat} (hi : i < ps.length) : pT ps i = (ps[i]).1 := by unfold pT; rw [List.getD_eq_getElem?_getD, List.getElem?_eq_getElem hi]; rfl
theorem pV_get {i : Nat} (hi : i < ps.length) : pV ps i = (ps[i]).2 := by unfold pV; rw [List.getD_eq_getElem?_getD, List.getElem?_eq_getElem hi]; rfl
theorem PzOk.inc (h : PzOk a ps) {i j : Nat} (hij : i < j) (hj : j < ps.length) : pT ps i < pT ps j := by
  have := List.pairwise_iff_getElem.mp h.lt i j (by rw [List.length_map]; omega) (by rw [List.length_map]; omega) hij
  rw [List.getElem_map, List.getElem_map] at this
  rw [pT_get (by omega), pT_get hj]; exact this
theorem stop_sz (h : PzOk a ps) (ht : Sz b t) (i : Nat) : Sz (a + b) (stopQ ps t i) := by
  unfold stopQ
  split
  · rename_i z; exact (h.zt _).up (by omega)
  · exact ht.up (by omega)
theorem step_sz {x e v s : Rat} {k : Nat} (hs : Sz a s) (he : Sz (a + b) e) (hv : Sz a v) (hx : Sz k x) : Sz (k + (3 * a + b + 2)) (stepQ s e v x) := by
  unfold stepQ
  split
  · exact (hx.add (hv.mul (he.sub hs))).up (by omega)
  · exact hx.up (by omega)
theorem posI_sz (h : PzOk a ps) (hq : Sz c q) (ht : Sz b t) : ∀ i, i ≤ ps.length → Sz (c + i * (3 * a + b + 2)) (posI q ps t i)
  | 0, _ => by rw [Nat.zero_mul]; exact hq
  | i + 1, hi => by
    have ih := posI_sz h hq ht i (by omega)
    rw [Nat.succ_mul, ← Nat.add_assoc]
    exact step_sz (h.zt _) (stop_sz h ht i) (h.zv _) ih
theorem posQ_sz (h : PzOk a ps) (hq : Sz c q) (ht : Sz b t) : Sz (c + ps.length * (3 * a + b + 2)) (posQ q ps t) := posI_sz h hq ht _ (Nat.le_refl _)
/-- behind a piece that begins at t or later nothing more is run -/
theorem posI_stay (h : PzOk a ps) {m : Nat} (hm : m < ps.length) (ht : t ≤ pT ps m) : ∀ k, m + k ≤ ps.length → posI q ps t (m + k) = posI q ps t m
  | 0, _ => rfl
  | k + 1, hk => by
    have ih := posI_stay h hm ht k (by omega)
    have h1 : t ≤ pT ps (m + k) := by
      cases k with
      | zero => exact ht
      | succ k => exact Rat.le_trans ht (Rat.le_of_lt (h.inc (by omega) (by omega)))
    have h2 : stopQ ps t (m + k) = t := by
      unfold stopQ
      rw [if_neg]
      rintro ⟨z1, z2⟩
      exact absurd (rlt_trans (rlt_le z2 h1) (h.inc (Nat.lt_succ_self _) z1)) Rat.lt_irrefl
    show stepQ (pT ps (m + k)) (stopQ ps t (m + k)) (pV ps (m + k)) (posI q ps t (m + k)) = _
    rw [h2]
    unfold stepQ
    rw [if_neg (Rat.not_lt.mpr h1)]
    exact ih
theorem posQ_stay (h : PzOk a ps) {m : Nat} (hm : m < ps.length) (ht : t ≤ pT ps m) : posQ q ps t = posI q ps t m := by
  have := posI_stay (q := q) h hm ht (ps.length - m) (by omega)
  rw [show m + (ps.length - m) = ps.length from by omega] at this
  exact this
theorem posQ_zero (h : PzOk a ps) : posQ q ps 0 = q := by
  have := posQ_stay (q := q) (t := 0) h (m := 0) h.l1 (by rw [h.h]; exact Rat.le_refl)
  exact this
/-- the speed from t on -/
def spQ (ps : Pcs) (t : Rat) : Rat := ((ps.filter fun p => decide (p.1 ≤ t)).getLast?.getD (0, 0)).2
theorem spf_ne (h : PzOk a ps) (ht : 0 ≤ t) : (ps.filter fun p => decide (p.1 ≤ t)) ≠ [] := by
  intro e
  have hm : ps.getD 0 (0, 0) ∈ ps := getD_mem h.l1
  have := List.filter_eq_nil_iff.mp e _ hm
  have h0 : (ps.getD 0 (0, 0)).1 = 0 := h.h
  rw [h0] at this
  exact this (decide_eq_true ht)
theorem spQ_last (h : PzOk a ps) (ht : 0 ≤ t) : ∃ p, (ps.filter fun p => decide (p.1 ≤ t)).getLast? = some p ∧ spQ ps t = p.2 ∧ p ∈ ps := by
  have hn := spf_ne h ht
  refine ⟨_, List.getLast?_eq_getLast hn, ?_, (List.mem_filter.mp (List.getLast_mem hn)).1⟩
  unfold spQ
  rw [List.getLast?_eq_getLast hn]; rfl
theorem spQ_sz (h : PzOk a ps) (ht : 0 ≤ t) : Sz a (spQ ps t) := by
  obtain ⟨p, _, e, m⟩ := spQ_last h ht
  rw [e]; exact (h.z p m).2
/-- the times of changes -/
def chT (rs : List (Str × Rat × Pcs)) : List Rat := rs.flatMap fun r => (r.2.2.drop 1).map (·.1)
end
end Mq

/-! evaluation of denotations by simp -/
namespace Dn
open PySem PySem.Spec PyProof.Rows L2
section
variable {α β : Type} {a : α} {e env : Ev} {c : XC} {fs : Fds} {t u : T} {x y z : D} {i j : Nat} {s s' : Slot} {d d1 d2 d3 : DE} {dv dv2 : Ev → Rs D}
@[simp] theorem e_bind_ok {f : α → Ev → Rs β} : (Rs.ok a e).bind f = f a e := rfl
@[simp] theorem e_bind_exc {f : α → Ev → Rs β} : (Rs.exc c fs e).bind f = .exc c fs e := rfl
@[simp] theorem e_bind_stuck {f : α → Ev → Rs β} : (Rs.stuck : Rs α).bind f = .stuck := rfl
@[simp] theorem e_bindD_ok {f : D → Ev → Rs β} : (Rs.ok t e).bindD f = f t.frz e := rfl
@[simp] theorem e_bindD_exc {f : D → Ev → Rs β} : (Rs.exc c fs e).bindD f = .exc c fs e := rfl
@[simp] theorem e_bindD_stuck {f : D → Ev → Rs β} : (Rs.stuck : Rs T).bindD f = .stuck := rfl
@[simp] theorem e_frz_d : (T.d x).frz = x := rfl
@[simp] theorem e_frz_lst {ds : List D} : (T.lst ds).frz = .list ds := rfl
@[simp] theorem e_frz_dict {ks : List Key} {ds : List D} : (T.dict ks ds).frz = .dict ks ds := rfl
@[simp] theorem e_frz_dictT {ks : List (List Key)} {ds : List D} : (T.dictT ks ds).frz = .dictT ks ds := rfl
@[simp] theorem e_frz_inst {C : Str} {ns : List Str} {ts : List T} : (T.inst C ns ts).frz = .inst C ns (frzL ts) := rfl
@[simp] theorem e_frzL_nil : frzL [] = [] := rfl
@[simp] theorem e_frzL_cons {ts : List T} : frzL (t :: ts) = t.frz :: frzL ts := rfl
@[simp] theorem e_getS_0 {r : Ev} : getS (s :: r) 0 = s := rfl
@[simp] theorem e_getS_s {r : Ev} : getS (s :: r) (i + 1) = getS r i := rfl
@[simp] theorem e_setS_0 {r : Ev} : setS (s :: r) 0 s' = s' :: r := rfl
@[simp] theorem e_setS_s {r : Ev} : setS (s :: r) (i + 1) s' = s :: setS r i s' := rfl
@[simp] theorem e_treeS_n : treeS .none = none := rfl
@[simp] theorem e_treeS_l : treeS (.loc t) = some t := rfl
@[simp] theorem e_treeS_p : treeS (.par t) = some t := rfl
@[simp] theorem e_reS_l : reS (.loc t) u = .loc u := rfl
@[simp] theorem e_reS_p : reS (.par t) u = .par u := rfl
@[simp] theorem e_isPar_l : isPar (.loc t) = false := rfl
@[simp] theorem e_isPar_n : isPar .none = false := rfl
@[simp] theorem e_isPar_p : isPar (.par t) = true := rfl
@[simp] theorem e_isD_d : isD (.d x) = true := rfl
@[simp] theorem e_isD_l {ds : List D} : isD (.lst ds) = false := rfl
@[simp] theorem e_isD_k {ks : List Key} {ds : List D} : isD (.dict ks ds) = false := rfl
@[simp] theorem e_isD_i {C : Str} {ns : List Str} {ts : List T} : isD (.inst C ns ts) = false := rfl
@[simp] theorem e_dC : dC x env = .ok (.d x) env := rfl
@[simp] theorem e_dVar : dVar i env = (match treeS (getS env i) with
  | some t => .ok (.d t.frz) (if isD t = true then env else setS env i (reS (getS env i) (.d t.frz)))
  | none => .stuck) := rfl
@[simp] theorem e_pk : pk i env = (match treeS (getS env i) with
  | some t => .ok t.frz env
  | none => .stuck) := rfl
@[simp] theorem e_frzD : frzD d env = (d env).bindD fun x env => .ok x env := rfl
@[simp] theorem e_ofO_s : ofO (some t) env = .ok t env := rfl
@[simp] theorem e_ofO_n : ofO none env = .stuck := rfl
@[simp] theorem e_ofD_s : ofD (some x) env = .ok (.d x) env := rfl
@[simp] theorem e_ofD_n : ofD none env = .stuck := rfl
@[simp] theorem e_ofB_s {b : Bool} : ofB (some b) env = .ok b env := rfl
@[simp] theorem e_ofL_s : ofL (some a) env = .ok a env := rfl
@[simp] theorem e_dBn {o : D → D → Option T} : dBn o d dv env = (d env).bindD fun x env => (dv env).bind fun y env => ofO (o x y) env := rfl
@[simp] theorem e_dBp {o : D → D → Option T} : dBp o i dv env = (pk i env).bind fun _ env => (dv env).bind fun y env => (pk i env).bind fun x env => ofO (o x y) env := rfl
@[simp] theorem e_dIx : dIx d dv env = (d env).bindD fun x env => (dv env).bind fun y env => ofD (ixD x y) env := rfl
@[simp] theorem e_dIxp : dIxp i dv env = (pk i env).bind fun _ env => (dv env).bind fun y env => (pk i env).bind fun x env => ofD (ixD x y) env := rfl
@[simp] theorem e_aB : aB d env = (d env).bind tB := rfl
@[simp] theorem e_tB {b : Bool} : tB (.d (.bool b)) env = .ok b env := rfl
@[simp] theorem e_dTru : dTru dv env = (dv env).bind fun x env => ofB (truD x) env := rfl
@[simp] theorem e_tru_b {b : Bool} : truD (.bool b) = some b := rfl
@[simp] theorem e_dAnd {b1 b2 : Ev → Rs Bool} : dAnd b1 b2 env = (b1 env).bind fun b env => if b = true then b2 env else .ok false env := rfl
@[simp] theorem e_dOr {b1 b2 : Ev → Rs Bool} : dOr b1 b2 env = (b1 env).bind fun b env => if b = true then .ok true env else b2 env := rfl
@[simp] theorem e_dNot {b1 : Ev → Rs Bool} : dNot b1 env = (b1 env).bind fun b env => .ok (!b) env := rfl
@[simp] theorem e_dAndV : dAndV d1 d2 env = (d1 env).bind fun t env => (tB t env).bind fun b env => if b = true then d2 env else .ok (.d (.bool false)) env := rfl
@[simp] theorem e_dOrV : dOrV d1 d2 env = (d1 env).bind fun t env => (tB t env).bind fun b env => if b = true then .ok (.d (.bool true)) env else d2 env := rfl
@[simp] theorem e_dNotV : dNotV d1 env = (d1 env).bind fun t env => (tB t env).bind fun b env => .ok (.d (.bool (!b))) env := rfl
@[simp] theorem e_dIf {b : Ev → Rs Bool} : dIf b d1 d2 env = (b env).bind fun b env => if b = true then d1 env else d2 env := rfl
@[simp] theorem e_dUn {o : D → Option T} : dUn o dv env = (dv env).bind fun x env => ofO (o x) env := rfl
@[simp] theorem e_dNil : dNil env = .ok [] env := rfl
@[simp] theorem e_dCons {ds : Ev → Rs (List D)} : dCons d1 ds env = (d1 env).bindD fun x env => (ds env).bind fun xs env => .ok (x :: xs) env := rfl
@[simp] theorem e_dTup {ds : Ev → Rs (List D)} : dTup ds env = (ds env).bind fun xs env => if xs.length ≤ sizeLine then .ok (.d (.tup xs)) env else .stuck := rfl
@[simp] theorem e_dLst {ds : Ev → Rs (List D)} : dLst ds env = (ds env).bind fun xs env => if xs.length ≤ sizeLine then .ok (.lst xs) env else .stuck := rfl
@[simp] theorem e_dB1 {o : D → Option T} : dB1 o dv env = (dv env).bind fun x env => ofO (o x) env := rfl
@[simp] theorem e_dBs {o : List D → Option T} {ds : Ev → Rs (List D)} : dBs o ds env = (ds env).bind fun x env => ofO (o x) env := rfl
@[simp] theorem e_dSeq {s1 s2 : DS} : dSeq s1 s2 env = (s1 env).bind fun w env => match w with
  | .nx => s2 env
  | w => .ok w env := rfl
@[simp] theorem e_dSkip : dSkip env = .ok .nx env := rfl
@[simp] theorem e_dNo : dNo env = .stuck := rfl
@[simp] theorem e_dNoE : dNoE env = .stuck := rfl
@[simp] theorem e_dSet : dSet i d env = (d env).bind fun t env => nxO (putS i t env) := rfl
@[simp] theorem e_putS : putS i t env = if isPar (getS env i) = true then none else some (setS env i (.loc t)) := rfl
@[simp] theorem e_nxO_s : nxO (some e) = .ok .nx e := rfl
@[simp] theorem e_nxO_n : nxO none = .stuck := rfl
@[simp] theorem e_dRet : dRet d env = (d env).bind fun t env => .ok (.rt t) env := rfl
@[simp] theorem e_dIte {b : Ev → Rs Bool} {s1 s2 : DS} : dIte b s1 s2 env = (b env).bind fun b env => if b = true then s1 env else s2 env := rfl
@[simp] theorem e_dExpr : dExpr d env = (d env).bind fun _ env => .ok .nx env := rfl
@[simp] theorem e_dPar2 : dPar2 i j d1 d2 env = (d1 env).bind fun t env => (d2 env).bind fun u env => nxO ((putS i t env).bind fun env => putS j u env) := rfl
@[simp] theorem e_dAsg {g : D → Ev → Option Ev} : dAsg g d env = (d env).bindD fun x env => nxO (g x env) := rfl
@[simp] theorem e_gNm : gNm i x env = putS i (.d x) env := rfl
@[simp] theorem e_gNil : gNil [] env = some env := rfl
@[simp] theorem e_gCons {g : D → Ev → Option Ev} {gs : List D → Ev → Option Ev} {xs : List D} : gCons g gs (x :: xs) env = (g x env).bind fun env => gs xs env := rfl
@[simp] theorem e_gTup {n : Nat} {gs : List D → Ev → Option Ev} {xs : List D} : gTup n gs (.tup xs) env = if xs.length = n then gs xs env else none := rfl
@[simp] theorem e_dCallP {F : Fn} {n : Nat} {dvs : List V} {ds : Ev → Rs (List D)} : dCallP F n dvs ds env = (ds env).bind fun xs env => callP F n dvs xs env := rfl
@[simp] theorem e_callP {F : Fn} {n : Nat} {dvs : List V} {xs : List D} : callP F n dvs xs env = if xs.length + dvs.length = n then (match F ((xs ++ dvs.map vD).map .d) with
  | .ok t _ => .ok t env
  | .exc c fs _ => .exc c fs env
  | .stuck => .stuck) else .stuck := rfl
@[simp] theorem e_vD_i {n : Int} : vD (.int n) = .int n := rfl
@[simp] theorem e_vD_n : vD .non = .none := rfl
@[simp] theorem e_vD_b {b : Bool} : vD (.bl b) = .bool b := rfl
@[simp] theorem e_vD_s {b : Str} : vD (.str b) = .str b := rfl
@[simp] theorem e_fnOf {m : List Bool} {n : Nat} {s : DS} {ts : List T} : fnOf m n s ts = fin (s (ev0 m ts n)) := rfl
@[simp] theorem e_fin_rt : fin (.ok (.rt t) env) = .ok t (backs env) := rfl
@[simp] theorem e_fin_nx : fin (.ok .nx env) = .ok (.d .none) (backs env) := rfl
@[simp] theorem e_fin_exc : fin (.exc c fs env) = .exc c fs (backs env) := rfl
@[simp] theorem e_fin_stuck : fin .stuck = .stuck := rfl
@[simp] theorem e_ev0_t {ms : List Bool} {ts : List T} {n : Nat} : ev0 (true :: ms) (t :: ts) (n + 1) = .par t :: ev0 ms ts n := rfl
@[simp] theorem e_ev0_f {ms : List Bool} {ts : List T} {n : Nat} : ev0 (false :: ms) (t :: ts) (n + 1) = .loc t :: ev0 ms ts n := rfl
@[simp] theorem e_ev0_n {n : Nat} : ev0 [] [] n = List.replicate n .none := rfl
@[simp] theorem e_backs_nil : backs [] = [] := rfl
@[simp] theorem e_backs_n {r : Ev} : backs (.none :: r) = backs r := rfl
@[simp] theorem e_backs_l {r : Ev} : backs (.loc t :: r) = backs r := rfl
@[simp] theorem e_backs_p {r : Ev} : backs (.par t :: r) = t :: backs r := rfl
/-! operators -/
@[simp] theorem e_add_i {a b : Int} : oAdd (.int a) (.int b) = some (.d (.int (a + b))) := rfl
@[simp] theorem e_sub_i {a b : Int} : oSub (.int a) (.int b) = some (.d (.int (a - b))) := rfl
@[simp] theorem e_sub_b {a b : Bool} : oSub (.bool a) (.bool b) = some (.d (.int ((if a = true then (1 : Int) else 0) - (if b = true then (1 : Int) else 0)))) := rfl
@[simp] theorem e_mul_i {a b : Int} : oMul (.int a) (.int b) = if mulOk a b = true then some (.d (.int (a * b))) else none := rfl
@[simp] theorem e_div_i {a b : Int} : oDiv (.int a) (.int b) = if divOk b = true then some (.d (.int (a.fdiv b))) else none := rfl
@[simp] theorem e_mod_i {a b : Int} : oMod (.int a) (.int b) = if b = 0 then none else some (.d (.int (a.fmod b))) := rfl
@[simp] theorem e_neg_i {a : Int} : oNeg (.int a) = some (.d (.int (-a))) := rfl
@[simp] theorem e_lt_i {a b : Int} : oLt (.int a) (.int b) = some (.d (.bool (decide (a < b)))) := rfl
@[simp] theorem e_le_i {a b : Int} : oLe (.int a) (.int b) = some (.d (.bool (decide (a ≤ b)))) := rfl
@[simp] theorem e_gt_i {a b : Int} : oGt (.int a) (.int b) = some (.d (.bool (decide (b < a)))) := rfl
@[simp] theorem e_ge_i {a b : Int} : oGe (.int a) (.int b) = some (.d (.bool (decide (b ≤ a)))) := rfl
@[simp] theorem e_eqD_i {a b : Int} : eqD (.int a) (.int b) = some (decide (a = b)) := by
  simp [eqD, D.py, SeqAt.shaped, PyData.canLay0, PyData.depth, PyData.eqv]
  exact Bool.eq_iff_iff.mpr (by simp)
@[simp] theorem e_eqD_t2 {a b c d : Int} : eqD (.tup [.int a, .int b]) (.tup [.int c, .int d]) = some (decide (a = c) && decide (b = d)) := by
  simp [eqD, D.py, pyL, SeqAt.shaped, PyData.canLay0, PyData.canLayAll0, PyData.depth, PyData.depthAll, PyData.eqv, PyData.eqvAll]
  rfl
@[simp] theorem e_oEq : oEq x y = (eqD x y).map fun b => .d (.bool b) := rfl
@[simp] theorem e_oNe : oNe x y = (eqD x y).map fun b => .d (.bool (!b)) := rfl
@[simp] theorem e_abs {n : Int} : oAbs (.int n) = some (.d (.int (if n < 0 then -n else n))) := rfl
@[simp] theorem e_len_l {ds : List D} : oLen (.list ds) = some (.d (.int ds.length)) := rfl
@[simp] theorem e_len_t {ds : List D} : oLen (.tup ds) = some (.d (.int ds.length)) := rfl
@[simp] theorem e_ix_t {ds : List D} {n : Int} : ixD (.tup ds) (.int n) = atI ds n := rfl
@[simp] theorem e_ix_l {ds : List D} {n : Int} : ixD (.list ds) (.int n) = atI ds n := rfl
@[simp] theorem e_at_0 {α : Type} {x : α} {r : List α} : atI (x :: r) 0 = some x := by
  have : ixN (x :: r).length 0 = some 0 := by unfold ixN; rw [if_pos (by decide), if_pos (by simp <;> omega)]; rfl
  unfold atI; rw [this]; rfl
@[simp] theorem e_at_1 {α : Type} {x y : α} {r : List α} : atI (x :: y :: r) 1 = some y := by
  have : ixN (x :: y :: r).length 1 = some 1 := by unfold ixN; rw [if_pos (by decide), if_pos (by simp <;> omega)]; rfl
  unfold atI; rw [this]; rfl
@[simp] theorem e_isa_int_none : isaD "int" .none = some false := by rfl
@[simp] theorem e_isa_int_bool {b : Bool} : isaD "int" (.bool b) = some true := by rfl
@[simp] theorem e_isa_int_int {n : Int} : isaD "int" (.int n) = some true := by rfl
@[simp] theorem e_isa_int_str {z : Str} : isaD "int" (.str z) = some false := by rfl
@[simp] theorem e_isa_int_tup {ds : List D} : isaD "int" (.tup ds) = some false := by rfl
@[simp] theorem e_isa_int_list {ds : List D} : isaD "int" (.list ds) = some false := by rfl
@[simp] theorem e_isa_int_dict {ks : List Key} {ds : List D} : isaD "int" (.dict ks ds) = some false := by rfl
@[simp] theorem e_isa_bool_none : isaD "bool" .none = some false := by rfl
@[simp] theorem e_isa_bool_bool {b : Bool} : isaD "bool" (.bool b) = some true := by rfl
@[simp] theorem e_isa_bool_int {n : Int} : isaD "bool" (.int n) = some false := by rfl
@[simp] theorem e_isa_bool_str {z : Str} : isaD "bool" (.str z) = some false := by rfl
@[simp] theorem e_isa_bool_tup {ds : List D} : isaD "bool" (.tup ds) = some false := by rfl
@[simp] theorem e_isa_bool_list {ds : List D} : isaD "bool" (.list ds) = some false := by rfl
@[simp] theorem e_isa_bool_dict {ks : List Key} {ds : List D} : isaD "bool" (.dict ks ds) = some false := by rfl
@[simp] theorem e_isa_str_none : isaD "str" .none = some false := by rfl
@[simp] theorem e_isa_str_bool {b : Bool} : isaD "str" (.bool b) = some false := by rfl
@[simp] theorem e_isa_str_int {n : Int} : isaD "str" (.int n) = some false := by rfl
@[simp] theorem e_isa_str_str {z : Str} : isaD "str" (.str z) = some true := by rfl
@[simp] theorem e_isa_str_tup {ds : List D} : isaD "str" (.tup ds) = some false := by rfl
@[simp] theorem e_isa_str_list {ds : List D} : isaD "str" (.list ds) = some false := by rfl
@[simp] theorem e_isa_str_dict {ks : List Key} {ds : List D} : isaD "str" (.dict ks ds) = some false := by rfl
@[simp] theorem e_isa_tuple_none : isaD "tuple" .none = some false := by rfl
@[simp] theorem e_isa_tuple_bool {b : Bool} : isaD "tuple" (.bool b) = some false := by rfl
@[simp] theorem e_isa_tuple_int {n : Int} : isaD "tuple" (.int n) = some false := by rfl
@[simp] theorem e_isa_tuple_str {z : Str} : isaD "tuple" (.str z) = some false := by rfl
@[simp] theorem e_isa_tuple_tup {ds : List D} : isaD "tuple" (.tup ds) = some true := by rfl
@[simp] theorem e_isa_tuple_list {ds : List D} : isaD "tuple" (.list ds) = some false := by rfl
@[simp] theorem e_isa_tuple_dict {ks : List Key} {ds : List D} : isaD "tuple" (.dict ks ds) = some false := by rfl
@[simp] theorem e_isa_list_none : isaD "list" .none = some false := by rfl
@[simp] theorem e_isa_list_bool {b : Bool} : isaD "list" (.bool b) = some false := by rfl
@[simp] theorem e_isa_list_int {n : Int} : isaD "list" (.int n) = some false := by rfl
@[simp] theorem e_isa_list_str {z : Str} : isaD "list" (.str z) = some false := by rfl
@[simp] theorem e_isa_list_tup {ds : List D} : isaD "list" (.tup ds) = some false := by rfl
@[simp] theorem e_isa_list_list {ds : List D} : isaD "list" (.list ds) = some true := by rfl
@[simp] theorem e_isa_list_dict {ks : List Key} {ds : List D} : isaD "list" (.dict ks ds) = some false := by rfl
@[simp] theorem e_isa_dict_none : isaD "dict" .none = some false := by rfl
@[simp] theorem e_isa_dict_bool {b : Bool} : isaD "dict" (.bool b) = some false := by rfl
@[simp] theorem e_isa_dict_int {n : Int} : isaD "dict" (.int n) = some false := by rfl
@[simp] theorem e_isa_dict_str {z : Str} : isaD "dict" (.str z) = some false := by rfl
@[simp] theorem e_isa_dict_tup {ds : List D} : isaD "dict" (.tup ds) = some false := by rfl
@[simp] theorem e_isa_dict_list {ds : List D} : isaD "dict" (.list ds) = some false := by rfl
@[simp] theorem e_isa_dict_dict {ks : List Key} {ds : List D} : isaD "dict" (.dict ks ds) = some true := by rfl
@[simp] theorem e_isaLs_none {Ts : List String} : isaLs .none Ts = isaL .none Ts := rfl
@[simp] theorem e_isaLs_bool {b : Bool} {Ts : List String} : isaLs (.bool b) Ts = isaL (.bool b) Ts := rfl
@[simp] theorem e_isaLs_int {n : Int} {Ts : List String} : isaLs (.int n) Ts = isaL (.int n) Ts := rfl
@[simp] theorem e_isaLs_str {z : Str} {Ts : List String} : isaLs (.str z) Ts = isaL (.str z) Ts := rfl
@[simp] theorem e_isaLs_tup {ds : List D} {Ts : List String} : isaLs (.tup ds) Ts = isaL (.tup ds) Ts := rfl
@[simp] theorem e_isaLs_list {ds : List D} {Ts : List String} : isaLs (.list ds) Ts = isaL (.list ds) Ts := rfl
@[simp] theorem e_isaLs_dict {ks : List Key} {ds : List D} {Ts : List String} : isaLs (.dict ks ds) Ts = isaL (.dict ks ds) Ts := rfl
@[simp] theorem e_isaL_nil : isaL x [] = some false := rfl
@[simp] theorem e_isaL_cons {T : String} {Ts : List String} : isaL x (T :: Ts) = (isaD T x).bind fun b => (isaL x Ts).map fun c => b || c := rfl
@[simp] theorem e_dIsa {T : String} : dIsa T dv env = (dv env).bind fun x env => match isaD T x with
  | some b => .ok (.d (.bool b)) env
  | none => .stuck := rfl
@[simp] theorem e_dIsaL {Ts : List String} : dIsaL Ts dv env = (dv env).bind fun x env => match isaLs x Ts with
  | some b => .ok (.d (.bool b)) env
  | none => .stuck := rfl
@[simp] theorem e_dChain {o o' : D → D → Option T} : dChain o o' d1 d2 dv env = (d1 env).bindD fun x env => (d2 env).bindD fun y env => chD o o' dv x y env := rfl
@[simp] theorem e_chD {o o' : D → D → Option T} : chD o o' dv x y env = (match o x y with
  | some (.d (.bool k)) => if k = true then (dv env).bind fun z env => ofO (o' y z) env else .ok (.d (.bool false)) env
  | _ => .stuck) := rfl
@[simp] theorem e_len_s {z : Str} : oLen (.str z) = if z.length ≤ sizeLine then some (.d (.int z.length)) else none := by
  show (if z.length ≤ sizeLine then some (z.length : Int) else none).map _ = _
  split <;> rfl
@[simp] theorem e_len_d {ks : List Key} {ds : List D} : oLen (.dict ks ds) = some (.d (.int ks.length)) := rfl
@[simp] theorem e_size : sizeLine = 16777216 := rfl
end
/-! loops, comprehensions -/
section
variable {α β ζ : Type} {env env1 env2 : Ev} {x : D} {xs : List D} {g : D → Ev → Option Ev} {b : DS} {i : Nat} {vs : List Nat}
@[simp] theorem e_dIt {d : DE} : dIt d env = (d env).bindD fun x env => ofL (itemsD x) env := rfl
@[simp] theorem e_items_l {ds : List D} : itemsD (.list ds) = some ds := rfl
@[simp] theorem e_items_t {ds : List D} : itemsD (.tup ds) = some ds := rfl
@[simp] theorem e_dFor {it : Ev → Rs (List D)} : dFor it g b env = (it env).bind fun xs env => forL g b xs env := rfl
@[simp] theorem e_clr_nil : clrO env [] = some env := rfl
@[simp] theorem e_clr_cons {v : Nat} : clrO env (v :: vs) = (clrO env vs).bind fun e => if isPar (getS e v) = true then none else some (setS e v .none) := rfl
@[simp] theorem e_okW : okW env vs = vs.all fun v => flatS (getS env v) := rfl
@[simp] theorem e_flat_n : flatS .none = true := rfl
@[simp] theorem e_flat_d {y : D} : flatS (.loc (.d y)) = true := rfl
@[simp] theorem e_rst_nil : rstO env1 [] env = env := rfl
@[simp] theorem e_rst_cons {v : Nat} : rstO env1 (v :: vs) env = rstO env1 vs (setS env v (getS env1 v)) := rfl
@[simp] theorem e_clrR {a : α} : clrR a vs env = (match clrO env vs with
  | some e => .ok a e
  | none => .stuck) := rfl
@[simp] theorem e_turnE {t : Ev → Rs Bool} {em : Ev → Rs ζ} : turnE vs g t em x env = (match g x env with
  | none => .stuck
  | some env1 => (t env1).bind fun b env => if b = true then (em env).bind fun y env => clrR (some y) vs env else clrR none vs env) := rfl
@[simp] theorem e_emD {d : DE} : emD d env = (d env).bindD fun y env => .ok y env := rfl
@[simp] theorem e_dYes : dYes env = .ok true env := rfl
@[simp] theorem e_dComp {N : Nat} {it : Ev → Rs (List D)} {tn : D → Ev → Rs (Option ζ)} {f : List ζ → T} : dComp N it vs tn f env = (it env).bind fun xs env => if xs.length < N ∧ okW env vs = true then (match clrO env vs with
  | some env1 => (compL tn xs env1).bind fun ys env2 => .ok (f ys) (rstO env vs env2)
  | none => .stuck) else .stuck := rfl
@[simp] theorem e_emI {d : DE} : emI d env = (d env).bindD fun y env => (match y with
  | .int i => .ok i env
  | _ => .stuck) := rfl
@[simp] theorem e_dSortSc {it : Ev → Rs (List D)} {tn : D → Ev → Rs (Option Int)} : dSortSc it vs tn env = (dComp 4000 it vs tn (fun ads => .lst ((usrt ads).map .int)) env).bind fun t env => (match t with
  | .lst ds => if ds.length < 64 then .ok (.lst ds) env else .stuck
  | _ => .stuck) := rfl
theorem compL_map {tn : D → Ev → Rs (Option ζ)} {f : α → ζ} {h : α → D} : ∀ {ys : List α}, (∀ y ∈ ys, tn (h y) env = .ok (some (f y)) env) → compL tn (ys.map h) env = .ok (ys.map f) env
  | [], _ => rfl
  | y :: ys, hy => by
    rw [List.map_cons, List.map_cons]
    unfold compL
    rw [hy y List.mem_cons_self]
    show ((compL tn (ys.map h) env).bind fun zs env => Rs.ok ((some (f y)).toList ++ zs) env) = _
    rw [compL_map fun z hz => hy z (List.mem_cons_of_mem _ hz)]
    rfl
theorem compL_filter {tn : D → Ev → Rs (Option ζ)} {f : α → ζ} {p : α → Bool} {h : α → D} : ∀ {ys : List α}, (∀ y ∈ ys, tn (h y) env = .ok (if p y = true then some (f y) else none) env) → compL tn (ys.map h) env = .ok ((ys.filter p).map f) env
  | [], _ => rfl
  | y :: ys, hy => by
    rw [List.map_cons]
    unfold compL
    rw [hy y List.mem_cons_self]
    show ((compL tn (ys.map h) env).bind fun zs env => Rs.ok ((if p y = true then some (f y) else none).toList ++ zs) env) = _
    rw [compL_filter fun z hz => hy z (List.mem_cons_of_mem _ hz)]
    cases q : p y with
    | true => rw [List.filter_cons_of_pos q]; rfl
    | false => rw [List.filter_cons_of_neg (by simp [q])]; rfl
@[simp] theorem e_for_nil : forL g b [] env = .ok .nx env := rfl
theorem for_step (h : g x env = some env1) (hb : b env1 = .ok .nx env2) : forL g b (x :: xs) env = forL g b xs env2 := by
  show (match g x env with | none => _ | some env1 => _) = _
  rw [h]; dsimp only; rw [hb]
theorem for_map {h : α → D} {st : β → Ev} {f : β → α → β} : ∀ {ys : List α} {s : β}, (∀ y ∈ ys, ∀ s : β, ∃ env1, g (h y) (st s) = some env1 ∧ b env1 = .ok .nx (st (f s y))) → forL g b (ys.map h) (st s) = .ok .nx (st (ys.foldl f s))
  | [], _, _ => rfl
  | y :: ys, s, hy => by
    obtain ⟨env1, h1, h2⟩ := hy y List.mem_cons_self s
    rw [List.map_cons, for_step h1 h2, for_map fun z hz => hy z (List.mem_cons_of_mem _ hz)]
    rfl
end
/-! ranges, bools -/
section
variable {env : Ev} {x : D}
theorem e_dRng {f : List D → Option (List D)} {ds : Ev → Rs (List D)} : dRng f ds env = (ds env).bind fun xs env => ofL (f xs) env := rfl
theorem rngL_range (lo : Int) : ∀ n : Nat, rngL lo n = (List.range n).map fun i : Nat => D.int (lo + i)
  | 0 => rfl
  | n + 1 => by
    rw [List.range_succ_eq_map, List.map_cons, List.map_map]
    unfold rngL
    rw [rngL_range (lo + 1) n]
    have e : ((List.range n).map fun i : Nat => D.int (lo + 1 + i)) = (List.range n).map ((fun i : Nat => D.int (lo + i)) ∘ Nat.succ) := List.map_congr_left fun i _ => by
      show D.int (lo + 1 + i) = D.int (lo + (i + 1 : Nat))
      congr 1; omega
    rw [e]; simp
theorem rngL_0 (n : Nat) : rngL 0 n = (List.range n).map fun i : Nat => D.int i := by
  rw [rngL_range]
  exact List.map_congr_left fun i _ => by rw [Int.zero_add]
theorem rng1_nat {n : Nat} (h : n < 2 ^ 62) : rng1D [.int n] = some ((List.range n).map fun i : Nat => D.int i) := by
  have e : rngOk (n : Int) = true := decide_eq_true (by omega)
  show (if rngOk (n : Int) = true then some (rngL 0 (n : Int).toNat) else none) = _
  rw [if_pos e, Int.toNat_natCast, rngL_0]
theorem dRng1 {n : Nat} {ds : Ev → Rs (List D)} {e1 : Ev} (h : ds env = .ok [.int n] e1) (hn : n < 2 ^ 62) : dRng rng1D ds env = .ok ((List.range n).map fun i : Nat => D.int i) e1 := by
  rw [e_dRng, h, e_bind_ok, rng1_nat hn]; rfl
theorem boolsD_map : ∀ bs : List Bool, boolsD (bs.map .bool) = some bs
  | [] => rfl
  | b :: bs => by
    show (boolsD (bs.map .bool)).map (b :: ·) = _
    rw [boolsD_map bs]; rfl
theorem all_map (bs : List Bool) : oAll (.list (bs.map .bool)) = some (.d (.bool (bs.all id))) := by
  show (boolsD (bs.map .bool)).map _ = _
  rw [boolsD_map]; rfl
theorem any_map' (bs : List Bool) : oAny (.list (bs.map .bool)) = some (.d (.bool (bs.any id))) := by
  show (boolsD (bs.map .bool)).map _ = _
  rw [boolsD_map]; rfl
theorem intsD_map : ∀ bs : List Int, intsD (bs.map .int) = some bs
  | [] => rfl
  | b :: bs => by
    show (intsD (bs.map .int)).map (b :: ·) = _
    rw [intsD_map bs]; rfl
theorem ixN_lt {n i : Nat} (h : i < n) : L2.ixN n (i : Int) = some i := by
  unfold L2.ixN; rw [if_pos (by omega), if_pos (by omega)]; simp
end
/-! places, instances, dicts -/
section
variable {env : Ev} {x y : D} {t u : T} {C C' f g : Str} {ns : List Str} {ts : List T} {ds : List D} {i : Nat} {pa : Path} {d : DE} {ks : List L2.Key}
@[simp] theorem e_getE : getE env i pa = (treeS (getS env i)).bind fun t => getP t pa := rfl
@[simp] theorem e_setE : setE env i pa u = (match treeS (getS env i) with
  | some t => setS env i (reS (getS env i) (setP t pa u))
  | none => env) := rfl
@[simp] theorem e_getP_nil : getP t [] = some t := by cases t <;> first | rfl | (rename_i x; cases x <;> rfl)
@[simp] theorem e_getP_i {r : Path} : getP (.inst C ns ts) ((C', f) :: r) = if C = C' then (fldL ns ts f).bind fun u => getP u r else none := rfl
@[simp] theorem e_getP_d {r : Path} : getP (.d (.inst C ns ds)) ((C', f) :: r) = if C = C' then (fldL ns ds f).bind fun x => getP (.d x) r else none := rfl
@[simp] theorem e_setP_nil : setP t [] u = u := by cases t <;> rfl
@[simp] theorem e_setP_i {r : Path} : setP (.inst C ns ts) ((C', f) :: r) u = (match fldL ns ts f with
  | some s => .inst C ns (setL ns ts f (setP s r u))
  | none => .inst C ns ts) := rfl
@[simp] theorem e_fld_cons {α : Type} {n : Str} {a : α} {r : List α} : fldL (n :: ns) (a :: r) f = if n = f then some a else fldL ns r f := rfl
@[simp] theorem e_fld_nil {α : Type} {r : List α} : fldL [] r f = none := rfl
@[simp] theorem e_setL_cons {α : Type} {n : Str} {a b : α} {r : List α} : setL (n :: ns) (a :: r) f b = if n = f then b :: r else a :: setL ns r f b := rfl
@[simp] theorem e_dPl : dPl i pa env = (match getE env i pa with
  | some t => .ok (.d t.frz) (if isD t = true then env else setE env i pa (.d t.frz))
  | none => .stuck) := rfl
@[simp] theorem e_pkP : pkP i pa env = (match getE env i pa with
  | some t => .ok t.frz env
  | none => .stuck) := rfl
@[simp] theorem e_dFld : dFld i pa C f d env = (d env).bind fun t env => nxO ((getE env i pa).bind fun u => (putFld C f t u).map fun u' => setE env i pa u') := rfl
@[simp] theorem e_putFld : putFld C f t (.inst C' ns ts) = if C' = C ∧ ns.length < 900 then some (.inst C' (putN ns f) (putL ns ts f t)) else none := rfl
@[simp] theorem e_putN : putN ns f = if f ∈ ns then ns else ns ++ [f] := rfl
@[simp] theorem e_putL : putL ns ts f t = if f ∈ ns then setL ns ts f t else ts ++ [t] := rfl
@[simp] theorem e_dItemQ {k : Ev → Option D} : dItemQ i pa k d env = (d env).bindD fun x env => nxO ((k env).bind fun y => (getE env i pa).bind fun t => (putT t y x).map fun u => setE env i pa u) := rfl
@[simp] theorem e_putT_d : putT (.dict ks ds) y x = if ks.length < 1000000 then (keyD y).map fun k => .dict (putKs ks k) (putDs ks ds k x) else none := rfl
@[simp] theorem e_keyD_s {z : Str} : keyD (.str z) = some (.inr z) := rfl
@[simp] theorem e_keyD_i {z : Int} : keyD (.int z) = some (.inl z) := rfl
@[simp] theorem e_dNewK : dNewK env = .ok (.dict [] []) env := rfl
@[simp] theorem e_dNewT : dNewT env = .ok (.dictT [] []) env := rfl
@[simp] theorem e_dItD {h : D → Option (List D)} : dItD h d env = (d env).bindD fun x env => ofL (h x) env := rfl
@[simp] theorem e_itm : itmD (.dict ks ds) = some (zipKD ks ds) := rfl
@[simp] theorem e_vals : valD (.dict ks ds) = some ds := rfl
theorem e_ixD_d : ixD (.dict ks ds) (.str f) = lookK ks ds (.inr f) := rfl
theorem zipKD_map {α : Type} {h : α → Str} {k : α → D} : ∀ rs : List α, zipKD (rs.map fun r => .inr (h r)) (rs.map k) = rs.map fun r => .tup [.str (h r), k r]
  | [] => rfl
  | r :: rs => by
    rw [List.map_cons, List.map_cons, List.map_cons]
    unfold zipKD
    rw [zipKD_map rs]; rfl
theorem lookK_map {α : Type} {h : α → Str} {k : α → D} : ∀ {rs : List α} {r : α}, (rs.map h).Nodup → r ∈ rs → lookK (rs.map fun r => (Sum.inr (h r) : L2.Key)) (rs.map k) (.inr (h r)) = some (k r)
  | r0 :: rs, r, nd, hm => by
    obtain ⟨n1, n2⟩ := List.nodup_cons.mp (show (h r0 :: rs.map h).Nodup from nd)
    rw [List.map_cons, List.map_cons]
    unfold lookK
    rcases List.mem_cons.mp hm with e | e
    · subst e; rw [if_pos rfl]
    · have : (Sum.inr (h r0) : L2.Key) ≠ .inr (h r) := fun z => n1 (by rw [Sum.inr.inj z]; exact List.mem_map_of_mem e)
      rw [if_neg this]
      exact lookK_map n2 e
theorem keysS_map {α : Type} {h : α → Str} : ∀ rs : List α, keysS (rs.map fun r => (Sum.inr (h r) : L2.Key)) = some (rs.map h)
  | [] => rfl
  | r :: rs => by
    show (keysS (rs.map fun r => (Sum.inr (h r) : L2.Key))).map (h r :: ·) = _
    rw [keysS_map rs]; rfl
theorem hasK_map {α : Type} {h : α → Str} {rs : List α} {n : Str} (hn : n ∉ rs.map h) : hasK (rs.map fun r => (Sum.inr (h r) : L2.Key)) (.inr n) = false := by
  unfold hasK
  rw [List.any_map, List.any_eq_false]
  intro r hr
  have : h r ≠ n := fun z => hn (z ▸ List.mem_map_of_mem hr)
  simp [this]
theorem srtS_id {xs : List Str} (h : xs.Pairwise fun a b => Mq.sle a b = true) : srtS xs = xs := (srtS_uniq (List.Perm.refl _) (Mq.pair_sorted h)).symm
end
/-! calls with own variables -/
section
variable {env : Ev} {x y : D} {t u b : T} {i : Nat} {F : Fn} {as : List RA} {bs : List T} {d : DE} {ds : Ev → Rs (List RA)} {ns : List D}
@[simp] theorem e_rNil : rNil env = .ok [] env := rfl
@[simp] theorem e_rD : rD d ds env = (d env).bindD fun x env => (ds env).bind fun xs env => .ok (.inl x :: xs) env := rfl
@[simp] theorem e_rO : rO i ds env = if (treeS (getS env i)).isSome = true then (ds env).bind fun xs env => .ok (.inr i :: xs) env else .stuck := rfl
@[simp] theorem e_dCallO {m : List Bool} {dvs : List L2.V} : dCallO m F dvs ds env = (ds env).bind fun as env => callO m F dvs as env := rfl
@[simp] theorem e_callO {m : List Bool} {dvs : List L2.V} : callO m F dvs as env = if maskR as ++ List.replicate dvs.length false = m ∧ (owns as).Nodup then (match fetch env as with
  | some ts => (match F (ts ++ (dvs.map vD).map .d) with
    | .ok t back => .ok t (putB env as back)
    | .exc c fs back => .exc c fs (putB env as back)
    | .stuck => .stuck)
  | none => .stuck) else .stuck := rfl
@[simp] theorem e_maskR_n : maskR [] = [] := rfl
@[simp] theorem e_maskR_l : maskR (.inl x :: as) = false :: maskR as := rfl
@[simp] theorem e_maskR_r : maskR (.inr i :: as) = true :: maskR as := rfl
@[simp] theorem e_owns_n : owns [] = [] := rfl
@[simp] theorem e_owns_l : owns (.inl x :: as) = owns as := rfl
@[simp] theorem e_owns_r : owns (.inr i :: as) = i :: owns as := rfl
@[simp] theorem e_fetch_n : fetch env [] = some [] := rfl
@[simp] theorem e_fetch_l : fetch env (.inl x :: as) = (fetch env as).map (.d x :: ·) := rfl
@[simp] theorem e_fetch_r : fetch env (.inr i :: as) = (treeS (getS env i)).bind fun t => (fetch env as).map (t :: ·) := rfl
@[simp] theorem e_putB_n : putB env [] bs = env := rfl
@[simp] theorem e_putB_l : putB env (.inl x :: as) bs = putB env as bs := rfl
@[simp] theorem e_putB_r : putB env (.inr i :: as) (b :: bs) = setS (putB env as bs) i (reS (getS (putB env as bs) i) b) := rfl
@[simp] theorem e_putT_l {k : Int} : putT (.lst ns) (.int k) x = (L2.ixN ns.length k).map fun j => .lst (ns.set j x) := rfl
@[simp] theorem e_ixN2_0 : L2.ixN 2 0 = some 0 := rfl
@[simp] theorem e_ixN2_1 : L2.ixN 2 1 = some 1 := rfl
@[simp] theorem e_pow {a n : Int} : oPow (.int a) (.int n) = if powOk a n = true then some (.d (.int (a ^ n.toNat))) else none := rfl
@[simp] theorem e_retV_l {env : Ev} (h : getS env i = .loc t) : dRetV i env = .ok (.rt t) (setS env i (.loc (.d .none))) := by unfold dRetV; rw [h]
end
section
variable {env : Ev} {x : D} {i : Nat} {o : D → T → Option T} {d : DE} {ds es : List D}
@[simp] theorem e_dMut : dMut o i d env = if isLst (getE env i []) = true then (d env).bindD fun x env => (match (getE env i []).bind (o x) with
    | some u => .ok (.d .none) (setE env i [] u)
    | none => .stuck) else .stuck := rfl
@[simp] theorem e_isLst : isLst (some (.lst ds)) = true := rfl
@[simp] theorem e_appT : appT x (.lst ds) = if ds.length < 1000000 then some (.lst (ds ++ [x])) else none := rfl
@[simp] theorem e_extT : extT (.list es) (.lst ds) = if ds.length + es.length < 1000000 then some (.lst (ds ++ es)) else none := rfl
end
section
variable {env : Ev} {x : D} {o : Option Int} {d : DE} {xs : List D} {lo hi : Ev → Rs (Option Int)}
@[simp] theorem e_dSl : dSl d lo hi env = (d env).bindD fun x env => (lo env).bind fun l env => (hi env).bind fun u env => ofO (sliceD l u x) env := rfl
@[simp] theorem e_oNo : oNo env = .ok none env := rfl
@[simp] theorem e_oSm : oSm d env = (d env).bindD fun x env => (match x with
  | .int i => .ok (some i) env
  | _ => .stuck) := rfl
@[simp] theorem e_dMk {C : Str} {F : Fn} {n : Nat} {dvs : List L2.V} {ds : Ev → Rs (List D)} : dMk C F n dvs ds env = (ds env).bind fun xs env => callM C F n dvs xs env := rfl
theorem callM_2 {C : Str} {F : Fn} {a b : D} {t : T} (h : F [.inst C [] [], .d a, .d b] = .ok (.d .none) [t]) : callM C F 2 [] [a, b] env = .ok t env := by
  show (match F [.inst C [] [], .d a, .d b] with | .ok (.d .none) [t] => _ | .exc c fs _ => _ | _ => _) = _
  rw [h]
end
theorem cut_1 (d : D) (ds : List D) : cutD (d :: ds) (some 1) none = ds := by
  have h1 : HT.sIx (d :: ds).length 0 (some 1) = 1 := by
    simp [HT.sIx]
    try omega
  have h2 : HT.sIx (d :: ds).length (d :: ds).length none = (d :: ds).length := by simp [HT.sIx]
  unfold cutD
  rw [h1, h2]
  simp
section
variable {env : Ev} {α : Type}
theorem comp2_map {tn : Nat → D → Ev → Rs (List D)} {f : α → List D} {h : α → D} : ∀ {ys : List α} {n : Nat}, (∀ y ∈ ys, (f y).length ≤ 20 ∧ ∀ n, n < 900000 → tn n (h y) env = .ok (f y) env) → n + 20 * ys.length < 900000 → comp2 tn n (ys.map h) env = .ok (ys.flatMap f) env
  | [], n, _, _ => rfl
  | y :: ys, n, hy, hn => by
    rw [List.length_cons] at hn
    obtain ⟨h1, h2⟩ := hy y List.mem_cons_self
    rw [List.map_cons]
    unfold comp2
    rw [h2 n (by omega)]
    show ((comp2 tn (n + (f y).length) (ys.map h) env).bind fun zs env => Rs.ok (f y ++ zs) env) = _
    rw [comp2_map (fun z hz => hy z (List.mem_cons_of_mem _ hz)) (by omega)]
    rfl
end
/-! while -/
theorem dWhile_stop {c : Ev → Rs Bool} {b : DS} {env env1 : Ev} (h : c env = .ok false env1) : dWhile c b env = .ok .nx env1 := dWhile_eq (n := 1) (by unfold loopN; rw [h])
theorem dWhile_step {c : Ev → Rs Bool} {b : DS} {env env1 env2 : Ev} (h : c env = .ok true env1) (hb : b env1 = .ok .nx env2) : dWhile c b env = dWhile c b env2 := by
  by_cases ex : ∃ r n, loopN c b n env2 = some r
  · obtain ⟨r, n, hr⟩ := ex
    rw [dWhile_eq hr]
    exact dWhile_eq (n := n + 1) (by unfold loopN; rw [h]; dsimp only; rw [hb]; exact hr)
  · rw [dWhile_none ex, dWhile_none]
    rintro ⟨r, n, hr⟩
    cases n with
    | zero => cases hr
    | succ n =>
      unfold loopN at hr
      rw [h] at hr
      dsimp only at hr
      rw [hb] at hr
      exact ex ⟨r, n, hr⟩
end Dn

/-! numbers -/
namespace Pn
open PySem Dn Cd Mq
def ratD (q : Rat) : D := .tup [.int q.num, .int q.den]
/-- a number as the program holds it -/
def NumD (x : D) (q : Rat) : Prop := (∃ n : Int, x = .int n ∧ q = (n : Rat)) ∨ x = ratD q
theorem NumD.rat (q : Rat) : NumD (ratD q) q := .inr rfl
theorem NumD.int (n : Int) : NumD (.int n) (n : Rat) := .inl ⟨n, rfl, rfl⟩
@[simp] theorem is_integer_int (n : Int) : F_is_integer [.d (.int n)] = .ok (.d (.bool true)) [] := rfl
@[simp] theorem is_integer_tup (ds : List D) : F_is_integer [.d (.tup ds)] = .ok (.d (.bool false)) [] := rfl
@[simp] theorem is_integer_rat (q : Rat) : F_is_integer [.d (ratD q)] = .ok (.d (.bool false)) [] := rfl
@[simp] theorem is_integer_none : F_is_integer [.d .none] = .ok (.d (.bool false)) [] := rfl
@[simp] theorem is_integer_str (x : Str) : F_is_integer [.d (.str x)] = .ok (.d (.bool false)) [] := rfl
theorem cd_loop : ∀ (n : Nat) (a b : Int), b.natAbs < n → ∃ g : Int, g.natAbs = Int.gcd a b ∧
    dWhile (aB (dBp oNe 1 (frzD (dC (.int 0))))) c_common_divisor_0 [.loc (.d (.int a)), .loc (.d (.int b))] = .ok .nx [.loc (.d (.int g)), .loc (.d (.int 0))]
  | 0, a, b, h => by omega
  | n + 1, a, b, h => by
    by_cases hb : b = 0
    · subst hb
      exact ⟨a, by simp, dWhile_stop (by simp)⟩
    · have hm := fmod_abs a hb
      obtain ⟨g, hg, e⟩ := cd_loop n b (a.fmod b) (by omega)
      refine ⟨g, ?_, ?_⟩
      · rw [hg, gcd_step]
      · rw [← e]
        exact dWhile_step (env1 := [.loc (.d (.int a)), .loc (.d (.int b))]) (by simp [hb]) (by simp [c_common_divisor_0, hb])
@[simp] theorem common_divisor (a b : Int) : F_common_divisor [.d (.int a), .d (.int b)] = .ok (.d (.int (Int.gcd a b))) [] := by
  obtain ⟨g, hg, e⟩ := cd_loop _ a b (Nat.lt_succ_self _)
  simp [F_common_divisor, m_common_divisor, c_common_divisor, e]
  omega
@[simp] theorem is_ratio_rat (q : Rat) : F_is_ratio [.d (ratD q)] = .ok (.d (.bool true)) [] := by
  have h1 : Int.gcd q.num (q.den : Int) = 1 := q.reduced
  have h2 := q.den_pos
  have h3 : (1 : Int) ≤ (q.den : Int) := by omega
  simp [F_is_ratio, m_is_ratio, c_is_ratio, ratD, h1, h3]
@[simp] theorem is_ratio_int (n : Int) : F_is_ratio [.d (.int n)] = .ok (.d (.bool false)) [] := by
  simp [F_is_ratio, m_is_ratio, c_is_ratio]
theorem is_number_num {x : D} {q : Rat} (h : NumD x q) : F_is_number [.d x] = .ok (.d (.bool true)) [] := by
  rcases h with ⟨n, rfl, rfl⟩ | rfl
  · simp [F_is_number, m_is_number, c_is_number]
  · simp [F_is_number, m_is_number, c_is_number]
theorem as_ratio_num {x : D} {q : Rat} (h : NumD x q) : F_as_ratio [.d x] = .ok (.d (ratD q)) [] := by
  have h1 := is_number_num h
  rcases h with ⟨n, rfl, rfl⟩ | rfl
  · simp [F_as_ratio, m_as_ratio, c_as_ratio, h1, ratD]
  · simp [F_as_ratio, m_as_ratio, c_as_ratio, h1]
theorem log2_lt {a k : Nat} (h : a < 2 ^ k) (hk : 0 < k) : a.log2 < k := by
  by_cases ha : a = 0
  · subst ha; simpa using hk
  · exact (Nat.log2_lt ha).mpr h
theorem mulOk_of {a b : Int} {k l : Nat} (h1 : a.natAbs < 2 ^ k) (h2 : b.natAbs < 2 ^ l) (hk : 0 < k) (hl : 0 < l) (h : k + l ≤ 1000000) : mulOk a b = true := by
  have := log2_lt h1 hk
  have := log2_lt h2 hl
  exact decide_eq_true (by omega)
theorem divOk_of {b : Int} {k : Nat} (h0 : b ≠ 0) (h : b.natAbs < 2 ^ k) (hk : 0 < k) (hk2 : k ≤ 9000) : divOk b = true := by
  have := log2_lt h hk
  unfold divOk
  simp [h0]; omega
theorem ratio_ok {n d : Int} {k : Nat} (hd : d ≠ 0) (h1 : n.natAbs < 2 ^ k) (h2 : d.natAbs < 2 ^ k) (hk : 0 < k) (hk2 : k ≤ 9000) : F_ratio [.d (.int n), .d (.int d)] = .ok (.d (ratD (Rat.divInt n d))) [] := by
  obtain ⟨p1, p2⟩ := ratio_parts n d hd (if d > 0 then 1 else -1) rfl
  have hg : (Int.gcd n d : Int) ≠ 0 := by
    intro z
    have : Int.gcd n d = 0 := by omega
    rw [Int.gcd_eq_zero_iff] at this
    exact hd this.2
  have hg2 : Int.gcd n d < 2 ^ k := by
    refine Nat.lt_of_le_of_lt ?_ h2
    exact Nat.le_of_dvd (by omega) (Int.natAbs_dvd_natAbs.mpr (Int.gcd_dvd_right ..))
  by_cases hp : d > 0
  · rw [if_pos hp] at p1 p2
    have m1 : mulOk (Int.gcd n d) 1 = true := mulOk_of (k := k) (l := 1) (by simpa using hg2) (by decide) hk (by decide) (by omega)
    have m2 : divOk ((Int.gcd n d : Int) * 1) = true := divOk_of (k := k) (by omega) (by simpa using hg2) hk hk2
    simp only [Int.mul_one] at p1 p2 m2
    simp [F_ratio, m_ratio, c_ratio, hd, hp, m1, m2, p1, p2, ratD]
  · rw [if_neg hp] at p1 p2
    have m1 : mulOk (Int.gcd n d) (-1) = true := mulOk_of (k := k) (l := 1) (by simpa using hg2) (by decide) hk (by decide) (by omega)
    have m2 : divOk ((Int.gcd n d : Int) * -1) = true := divOk_of (k := k) (by omega) (by simp; exact hg2) hk hk2
    simp only [Int.mul_neg, Int.mul_one] at p1 p2 m2
    simp [F_ratio, m_ratio, c_ratio, hd, hp, m1, m2, p1, p2, ratD]
theorem two_parts {x y : D} {p q : Rat} {a b : Nat} (hx : NumD x p) (hy : NumD y q) (sa : Sz a p) (sb : Sz b q) (h : a + b ≤ 8900) :
    mulOk p.num q.num = true ∧ mulOk p.num q.den = true ∧ mulOk q.num p.den = true ∧ mulOk p.den q.den = true ∧ mulOk p.den q.num = true := by
  have pa := sa.pos
  have pb := sb.pos
  exact ⟨mulOk_of sa.1 sb.1 pa pb (by omega), mulOk_of sa.1 (show ((q.den : Int)).natAbs < 2 ^ b by simpa using sb.2) pa pb (by omega), mulOk_of sb.1 (show ((p.den : Int)).natAbs < 2 ^ a by simpa using sa.2) pb pa (by omega),
    mulOk_of (show ((p.den : Int)).natAbs < 2 ^ a by simpa using sa.2) (show ((q.den : Int)).natAbs < 2 ^ b by simpa using sb.2) pa pb (by omega), mulOk_of (show ((p.den : Int)).natAbs < 2 ^ a by simpa using sa.2) sb.1 pa pb (by omega)⟩
theorem natAbs_mul_lt {x y : Int} {a b : Nat} (h1 : x.natAbs < 2 ^ a) (h2 : y.natAbs < 2 ^ b) : (x * y).natAbs < 2 ^ (a + b) := by
  rw [Int.natAbs_mul]; exact mul_lt h1 h2
section
variable {x y : D} {p q : Rat} {a b : Nat}
theorem den_abs (p : Rat) : ((p.den : Int)).natAbs = p.den := by simp
theorem plus_ok (hx : NumD x p) (hy : NumD y q) (sa : Sz a p) (sb : Sz b q) (h : a + b ≤ 8900) : F_plus [.d x, .d y] = .ok (.d (ratD (p + q))) [] := by
  obtain ⟨m1, m2, m3, m4, m5⟩ := two_parts hx hy sa sb h
  have pa := sa.pos
  have h1 : (p.num * q.den).natAbs < 2 ^ (a + b) := natAbs_mul_lt sa.1 (by rw [den_abs]; exact sb.2)
  have h2 : (q.num * p.den).natAbs < 2 ^ (a + b) := by rw [Nat.add_comm]; exact natAbs_mul_lt sb.1 (by rw [den_abs]; exact sa.2)
  have h3 : ((p.den : Int) * q.den).natAbs < 2 ^ (a + b) := natAbs_mul_lt (by rw [den_abs]; exact sa.2) (by rw [den_abs]; exact sb.2)
  have hp := p.den_pos
  have hq := q.den_pos
  have r := ratio_ok (n := p.num * q.den + q.num * p.den) (d := (p.den : Int) * q.den) (k := a + b + 1) (by
    have : (p.den : Int) * q.den ≠ 0 := Int.mul_ne_zero (by omega) (by omega)
    exact this) (by rw [Nat.pow_succ]; omega) (by rw [Nat.pow_succ]; omega) (by omega) (by omega)
  rw [add_parts] at r
  have ax := as_ratio_num hx
  have ay := as_ratio_num hy
  rw [ratD] at ax ay
  simp [F_plus, m_plus, c_plus, ax, ay, m1, m2, m3, m4, r]
theorem minus_ok (hx : NumD x p) (hy : NumD y q) (sa : Sz a p) (sb : Sz b q) (h : a + b ≤ 8900) : F_minus [.d x, .d y] = .ok (.d (ratD (p - q))) [] := by
  obtain ⟨m1, m2, m3, m4, m5⟩ := two_parts hx hy sa sb h
  have pa := sa.pos
  have h1 : (p.num * q.den).natAbs < 2 ^ (a + b) := natAbs_mul_lt sa.1 (by rw [den_abs]; exact sb.2)
  have h2 : (q.num * p.den).natAbs < 2 ^ (a + b) := by rw [Nat.add_comm]; exact natAbs_mul_lt sb.1 (by rw [den_abs]; exact sa.2)
  have h3 : ((p.den : Int) * q.den).natAbs < 2 ^ (a + b) := natAbs_mul_lt (by rw [den_abs]; exact sa.2) (by rw [den_abs]; exact sb.2)
  have hp := p.den_pos
  have hq := q.den_pos
  have r := ratio_ok (n := p.num * q.den - q.num * p.den) (d := (p.den : Int) * q.den) (k := a + b + 1) (by
    have : (p.den : Int) * q.den ≠ 0 := Int.mul_ne_zero (by omega) (by omega)
    exact this) (by rw [Nat.pow_succ]; omega) (by rw [Nat.pow_succ]; omega) (by omega) (by omega)
  rw [sub_parts] at r
  have ax := as_ratio_num hx
  have ay := as_ratio_num hy
  rw [ratD] at ax ay
  simp [F_minus, m_minus, c_minus, ax, ay, m1, m2, m3, m4, r]
theorem times_ok (hx : NumD x p) (hy : NumD y q) (sa : Sz a p) (sb : Sz b q) (h : a + b ≤ 8900) : F_times [.d x, .d y] = .ok (.d (ratD (p * q))) [] := by
  obtain ⟨m1, m2, m3, m4, m5⟩ := two_parts hx hy sa sb h
  have pa := sa.pos
  have h1 : (p.num * q.num).natAbs < 2 ^ (a + b) := natAbs_mul_lt sa.1 sb.1
  have h3 : ((p.den : Int) * q.den).natAbs < 2 ^ (a + b) := natAbs_mul_lt (by rw [den_abs]; exact sa.2) (by rw [den_abs]; exact sb.2)
  have hp := p.den_pos
  have hq := q.den_pos
  have r := ratio_ok (n := p.num * q.num) (d := (p.den : Int) * q.den) (k := a + b) (by
    have : (p.den : Int) * q.den ≠ 0 := Int.mul_ne_zero (by omega) (by omega)
    exact this) h1 h3 (by omega) (by omega)
  rw [mul_parts] at r
  have ax := as_ratio_num hx
  have ay := as_ratio_num hy
  rw [ratD] at ax ay
  simp [F_times, m_times, c_times, ax, ay, m1, m2, m3, m4, r]
theorem divided_ok (hx : NumD x p) (hy : NumD y q) (sa : Sz a p) (sb : Sz b q) (h : a + b ≤ 8900) (hq0 : q ≠ 0) : F_divided [.d x, .d y] = .ok (.d (ratD (p / q))) [] := by
  obtain ⟨m1, m2, m3, m4, m5⟩ := two_parts hx hy sa sb h
  have pa := sa.pos
  have h1 : (p.num * q.den).natAbs < 2 ^ (a + b) := natAbs_mul_lt sa.1 (by rw [den_abs]; exact sb.2)
  have h3 : ((p.den : Int) * q.num).natAbs < 2 ^ (a + b) := natAbs_mul_lt (by rw [den_abs]; exact sa.2) sb.1
  have hp := p.den_pos
  have hqn : q.num ≠ 0 := fun z => hq0 (Rat.num_eq_zero.mp z)
  have r := ratio_ok (n := p.num * q.den) (d := (p.den : Int) * q.num) (k := a + b) (Int.mul_ne_zero (by omega) hqn) h1 h3 (by omega) (by omega)
  rw [div_parts] at r
  have ax := as_ratio_num hx
  have ay := as_ratio_num hy
  rw [ratD] at ax ay
  simp [F_divided, m_divided, c_divided, ax, ay, m1, m2, m3, m4, m5, r]
theorem compare_ok (hx : NumD x p) (hy : NumD y q) (sa : Sz a p) (sb : Sz b q) (h : a + b ≤ 8900) : F_compare [.d x, .d y] = .ok (.d (.int (cmpQ p q))) [] := by
  have m := minus_ok hx hy sa sb h
  rw [ratD] at m
  rw [← cmp_parts]
  simp [F_compare, m_compare, c_compare, m]
theorem floor_ok (hx : NumD x p) (sa : Sz a p) (h : a ≤ 8900) : F_floor_of [.d x] = .ok (.d (.int p.floor)) [] := by
  have ax := as_ratio_num hx
  rw [ratD] at ax
  have hp := p.den_pos
  have d1 : divOk (p.den : Int) = true := divOk_of (k := a) (by omega) (by rw [den_abs]; exact sa.2) sa.pos (by omega)
  have e : p.num.fdiv p.den = p.floor := by rw [Int.fdiv_eq_ediv_of_nonneg _ (by omega), Rat.floor_def]
  simp [F_floor_of, m_floor_of, c_floor_of, ax, d1, e]
theorem num_pos {q : Rat} (h : 0 < q) : 0 < q.num := by
  refine Int.not_le.mp fun z => Rat.not_le.mpr h ?_
  rw [Rat.le_iff_sub_nonneg, ← Rat.num_nonneg]
  have e : (0 - q).num = -q.num := by rw [Rat.sub_eq_add_neg, Rat.zero_add, Rat.neg_num]
  rw [e]; omega
theorem remainder_ok (hx : NumD x p) (hy : NumD y q) (sa : Sz a p) (sb : Sz b q) (h : 2 * a + 2 * b ≤ 8900) (hq0 : 0 < q) : F_remainder [.d x, .d y] = .ok (.d (ratD (rem p q))) [] := by
  have hq1 : q ≠ 0 := fun z => by rw [z] at hq0; exact absurd hq0 (by decide)
  have ax := as_ratio_num hx
  have ay := as_ratio_num hy
  have hn : 0 < q.num := num_pos hq0
  have dd := divided_ok (NumD.rat p) (NumD.rat q) sa sb (by omega) hq1
  have sd := sa.div sb
  have ff := floor_ok (NumD.rat (p / q)) sd (by omega)
  have tt := times_ok (NumD.rat q) (NumD.int (p / q).floor) sb sd.floor (by omega)
  have mm := minus_ok (NumD.rat p) (NumD.rat (q * ((p / q).floor : Int))) sa (sb.mul sd.floor) (by omega)
  have e : rem p q = p - q * ((p / q).floor : Int) := rfl
  rw [← e] at mm
  have hn2 : ¬ q.num ≤ 0 := by omega
  have i0 : ixD (ratD q) (.int 0) = some (.int q.num) := by simp [ratD]
  simp [F_remainder, m_remainder, c_remainder, ax, ay, dd, ff, tt, mm, i0, hn2]
end
def flat4 (s : Slot) : Prop := s = .none ∨ ∃ x, s = .loc (.d x)
end Pn

/-! names, pieces, runners -/
namespace Pn
open PySem Dn Cd Mq
/-- a piece as it is given: a time, a speed, each an int or a ratio -/
structure Pc where
  x : D
  t : Rat
  y : D
  s : Rat
def Pc.d (p : Pc) : D := .tup [p.x, p.y]
structure Pc.Ok (k : Nat) (p : Pc) : Prop where
  hx : NumD p.x p.t
  hy : NumD p.y p.s
  st : Sz k p.t
  ss : Sz k p.s
theorem zero_num : NumD (.int 0) 0 := .inl ⟨0, rfl, rfl⟩
theorem zero_sz : Sz 1 (0 : Rat) := ⟨by decide, by decide⟩
theorem cmp0_ok {x : D} {p : Rat} {a : Nat} (hx : NumD x p) (sa : Sz a p) (h : a ≤ 3000) : F_compare [.d x, .d (.int 0)] = .ok (.d (.int (cmpQ p 0))) [] := compare_ok hx zero_num sa zero_sz (by omega)
theorem cmpQ_nn {p : Rat} (h : 0 ≤ p) : 0 ≤ cmpQ p 0 := by
  unfold cmpQ
  rw [if_neg (Rat.not_lt.mpr h)]
  split <;> decide
theorem cmpQ_lt {p q : Rat} (h : p < q) : cmpQ p q < 0 := by unfold cmpQ; rw [if_pos h]; decide
theorem cmpQ_eq (p : Rat) : cmpQ p p = 0 := by
  unfold cmpQ
  have : ¬ p < p := Rat.lt_irrefl
  rw [if_neg this, if_neg this]
theorem is_piece_ok {k : Nat} {p : Pc} (h : p.Ok k) (hk : k ≤ 2000) (h0 : 0 ≤ p.t) : F_is_piece [.d p.d] = .ok (.d (.bool true)) [] := by
  have n1 := is_number_num h.hx
  have n2 := is_number_num h.hy
  have c := cmp0_ok h.hx h.st (by omega)
  have c0 := cmpQ_nn h0
  simp [F_is_piece, m_is_piece, c_is_piece, Pc.d, n1, n2, c, c0]
theorem at_map {α : Type} {f : α → D} {xs : List α} {i : Nat} {a : α} (h : xs[i]? = some a) : L2.atI (xs.map f) (i : Int) = some (f a) := by
  have hi := (List.getElem?_eq_some_iff.mp h).1
  unfold L2.atI
  rw [List.length_map, ixN_lt hi]
  show (xs.map f)[i]? = _
  rw [List.getElem?_map, h]; rfl
/-- times from 0 on, each later than the one before -/
structure PcsOk (k : Nat) (ps : List Pc) : Prop where
  ok : ∀ p ∈ ps, p.Ok k
  ne : ps ≠ []
  few : ps.length ≤ 20
  h0 : (ps[0]?).map (·.t) = some 0
  inc : ∀ i (p q : Pc), ps[i]? = some p → ps[i + 1]? = some q → p.t < q.t
  nn : ∀ p ∈ ps, 0 ≤ p.t
theorem are_pieces_ok {k : Nat} {ps : List Pc} (h : PcsOk k ps) (hk : k ≤ 1000) : F_are_pieces [.d (.list (ps.map Pc.d))] = .ok (.d (.bool true)) [] := by
  obtain ⟨p0, ps', rfl⟩ : ∃ p0 ps', ps = p0 :: ps' := by
    cases ps with
    | nil => exact absurd rfl h.ne
    | cons a b => exact ⟨a, b, rfl⟩
  have hl := h.few
  have A : ∀ v0 v2, compL (turnD [1] (gNm 1) dYes (dCallP F_is_piece 1 [] (dCons (dVar 1) dNil))) ((p0 :: ps').map Pc.d) [v0, .none, v2] = .ok (((p0 :: ps').map fun _ => true).map .bool) [v0, .none, v2] := by
    intro v0 v2
    rw [List.map_map]
    exact compL_map fun p hp => by simp [is_piece_ok (h.ok p hp) (by omega) (h.nn p hp)]
  have t0 : p0.t = 0 := by simpa using h.h0
  have c0 : F_compare [.d p0.x, .d (.int 0)] = .ok (.d (.int 0)) [] := by
    have := cmp0_ok (h.ok p0 List.mem_cons_self).hx (h.ok p0 List.mem_cons_self).st (by omega)
    rw [t0, cmpQ_eq] at this; exact this
  have L : ixD p0.d (.int 0) = some p0.x := by simp [Pc.d]
  have B : compL (turnD [2] (gNm 2) dYes (dBn oLt (dCallP F_compare 2 [] (dCons (dIx (dIxp 0 (pk 2)) (frzD (dC (.int 0)))) (dCons (dIx (dIxp 0 (frzD (dBp oAdd 2 (frzD (dC (.int 1)))))) (frzD (dC (.int 0)))) dNil))) (frzD (dC (.int 0))))) ((List.range ps'.length).map fun i : Nat => D.int i) [.loc (.d (.list ((p0 :: ps').map Pc.d))), .none, .none] =
      .ok (((List.range ps'.length).map fun _ => true).map .bool) [.loc (.d (.list ((p0 :: ps').map Pc.d))), .none, .none] := by
    rw [List.map_map]
    refine compL_map fun i hi => ?_
    have hi : i < ps'.length := List.mem_range.mp hi
    have e1 : (p0 :: ps')[i]? = some ((p0 :: ps')[i]'(by simp; omega)) := List.getElem?_eq_getElem _
    have e2 : (p0 :: ps')[i + 1]? = some ((p0 :: ps')[i + 1]'(by simp; omega)) := List.getElem?_eq_getElem _
    generalize (p0 :: ps')[i]'(by simp; omega) = p at e1
    generalize (p0 :: ps')[i + 1]'(by simp; omega) = q at e2
    have op := h.ok p (List.mem_of_getElem? e1)
    have oq := h.ok q (List.mem_of_getElem? e2)
    have c := compare_ok op.hx oq.hx op.st oq.st (by omega)
    have cl := cmpQ_lt (h.inc i p q e1 e2)
    have a1 := at_map (f := Pc.d) e1
    have a2 := at_map (f := Pc.d) e2
    have a2' : L2.atI ((p0 :: ps').map Pc.d) ((i : Int) + 1) = some q.d := a2
    have L1 : ixD p.d (.int 0) = some p.x := by simp [Pc.d]
    have L2' : ixD q.d (.int 0) = some q.x := by simp [Pc.d]
    generalize (p0 :: ps').map Pc.d = Ls at a1 a2'
    simp [a1, a2', L1, L2', c, cl]
  have r := rng1_nat (n := ps'.length) (by rw [List.length_cons] at hl; omega)
  have l1 : ps'.length + 1 ≤ 20 := by simpa using hl
  have ac := all_map ((p0 :: ps').map fun _ => true)
  have ad := all_map ((List.range ps'.length).map fun _ => true)
  have at0 : L2.atI ((p0 :: ps').map Pc.d) 0 = some p0.d := by rw [List.map_cons]; exact e_at_0
  have len : ((p0 :: ps').map Pc.d).length = ps'.length + 1 := by simp
  have t1 : ((p0 :: ps').map fun _ => true).all id = true := by simp
  have t2 : ((List.range ps'.length).map fun _ => true).all id = true := by simp
  rw [t1] at ac
  rw [t2] at ad
  generalize ((p0 :: ps').map fun _ => true).map D.bool = b1 at A ac
  generalize ((List.range ps'.length).map fun _ => true).map D.bool = b2 at B ad
  generalize (p0 :: ps').map Pc.d = Ls at A B at0 len
  have l2 : Ls.length < 1000000 := by omega
  have l3 : ps'.length < 1000000 := by omega
  have l4 : (1 : Int) ≤ (Ls.length : Int) := by omega
  have l5 : (Ls.length : Int) ≤ 20 := by omega
  have l6 : (Ls.length : Int) - 1 = (ps'.length : Int) := by omega
  have hR : dRng rng1D (dCons (dBn oSub (dB1 oLen (pk 0)) (frzD (dC (.int 1)))) dNil) [.loc (.d (.list Ls)), .none, .none] = .ok ((List.range ps'.length).map fun i : Nat => D.int i) [.loc (.d (.list Ls)), .none, .none] := by
    rw [e_dRng]
    have e : dCons (dBn oSub (dB1 oLen (pk 0)) (frzD (dC (.int 1)))) dNil [.loc (.d (.list Ls)), .none, .none] = .ok [.int ps'.length] [.loc (.d (.list Ls)), .none, .none] := by simp [l6]
    rw [e, e_bind_ok, r, e_ofL_s]
  have hC : aB (dChain oLe oLe (dC (.int 1)) (dB1 oLen (pk 0)) (frzD (dC (.int 20)))) [.loc (.d (.list Ls)), .none, .none] = .ok true [.loc (.d (.list Ls)), .none, .none] := by simp [l4, l5]
  have hD : dB1 oAll (frzD (dLc (dIt (dVar 0)) [1] (turnD [1] (gNm 1) dYes (dCallP F_is_piece 1 [] (dCons (dVar 1) dNil))))) [.loc (.d (.list Ls)), .none, .none] = .ok (.d (.bool true)) [.loc (.d (.list Ls)), .none, .none] := by simp [A, l2, ac]
  have hE : dB1 oAll (frzD (dLc (dRng rng1D (dCons (dBn oSub (dB1 oLen (pk 0)) (frzD (dC (.int 1)))) dNil)) [2] (turnD [2] (gNm 2) dYes (dBn oLt (dCallP F_compare 2 [] (dCons (dIx (dIxp 0 (pk 2)) (frzD (dC (.int 0)))) (dCons (dIx (dIxp 0 (frzD (dBp oAdd 2 (frzD (dC (.int 1)))))) (frzD (dC (.int 0)))) dNil))) (frzD (dC (.int 0))))))) [.loc (.d (.list Ls)), .none, .none] = .ok (.d (.bool true)) [.loc (.d (.list Ls)), .none, .none] := by
    simp [hR, B, l3, ad]
  have hF : aB (dBn oNe (dCallP F_compare 2 [] (dCons (dIx (dIxp 0 (frzD (dC (.int 0)))) (frzD (dC (.int 0)))) (dCons (dC (.int 0)) dNil))) (frzD (dC (.int 0)))) [.loc (.d (.list Ls)), .none, .none] = .ok false [.loc (.d (.list Ls)), .none, .none] := by simp [c0, L, at0]
  simp [-e_dB1, -e_aB, F_are_pieces, m_are_pieces, c_are_pieces, hC, hD, hE, hF]
/-- a runner as it is given: a start, pieces -/
structure Rn where
  x : D
  t : Rat
  ps : List Pc
def Rn.d (r : Rn) : D := .tup [r.x, .list (r.ps.map Pc.d)]
structure RnOk (k : Nat) (r : Rn) : Prop where
  hx : NumD r.x r.t
  st : Sz k r.t
  ok : PcsOk k r.ps
theorem is_runner_ok {k : Nat} {r : Rn} (h : RnOk k r) (hk : k ≤ 1000) : F_is_runner [.d r.d] = .ok (.d (.bool true)) [] := by
  have n1 := is_number_num h.hx
  have n2 := are_pieces_ok h.ok hk
  simp [F_is_runner, m_is_runner, c_is_runner, Rn.d, n1, n2]
theorem as_time_ok {x : D} {p : Rat} {a : Nat} (hx : NumD x p) (sa : Sz a p) (h : a ≤ 3000) (h0 : 0 ≤ p) : F_as_time [.d x] = .ok (.d (ratD p)) [] := by
  have n := is_number_num hx
  have c := cmp0_ok hx sa h
  have c0 := cmpQ_nn h0
  have c1 : ¬ cmpQ p 0 < 0 := by omega
  have r := as_ratio_num hx
  simp [F_as_time, m_as_time, c_as_time, n, c, c1, r]
end Pn

/-! Race -/
namespace Pn
open PySem Dn Cd Mq
@[simp] theorem s_lr : (("own_length" : Str) = "own_runners") = False := eq_false (by decide +kernel)
@[simp] theorem s_lp : (("own_length" : Str) = "own_parts") = False := eq_false (by decide +kernel)
@[simp] theorem s_rl : (("own_runners" : Str) = "own_length") = False := eq_false (by decide +kernel)
@[simp] theorem s_rp : (("own_runners" : Str) = "own_parts") = False := eq_false (by decide +kernel)
@[simp] theorem s_pl : (("own_parts" : Str) = "own_length") = False := eq_false (by decide +kernel)
@[simp] theorem s_pr : (("own_parts" : Str) = "own_runners") = False := eq_false (by decide +kernel)
abbrev NR := Str × Rn
def keysR (rs : List NR) : List L2.Key := rs.map fun r => .inr r.1
def inD (rs : List NR) : D := .dict (keysR rs) (rs.map fun r => r.2.d)
def rowD (p : Pc) : D := .tup [ratD p.t, ratD p.s]
def runD (L : Rat) (r : Rn) : D := .tup [ratD (rem r.t L), .list (r.ps.map rowD)]
def runsK (L : Rat) (rs : List NR) : List D := rs.map fun r => runD L r.2
def runsD (L : Rat) (rs : List NR) : D := .dict (keysR rs) (runsK L rs)
def raceD (L : Rat) (rs : List NR) : D := .inst "Race" ["own_length", "own_runners", "own_parts"] [ratD L, runsD L rs, .tup [ratD L, runsD L rs]]
structure RsOk (k : Nat) (rs : List NR) : Prop where
  nm : ∀ r ∈ rs, F_is_name [.d (.str r.1)] = .ok (.d (.bool true)) []
  ok : ∀ r ∈ rs, RnOk k r.2
  ne : rs ≠ []
  few : rs.length ≤ 12
  srt : (rs.map (·.1)).Pairwise fun a b => sle a b = true
  nd : (rs.map (·.1)).Nodup
theorem flat_par {s : Slot} (h : flat4 s) : isPar s = false := by rcases h with rfl | ⟨x, rfl⟩ <;> rfl
theorem init_1 {k : Nat} (hk : k ≤ 1000) {v0 v1 v2 : Slot} : ∀ (rs : List NR) (s3 s4 : Slot), (∀ r ∈ rs, F_is_name [.d (.str r.1)] = .ok (.d (.bool true)) [] ∧ RnOk k r.2) → flat4 s3 → flat4 s4 → ∃ s3' s4', flat4 s3' ∧ flat4 s4' ∧
    forL (gTup 2 (gCons (gNm 3) (gCons (gNm 4) gNil))) c_Race___init___0 (rs.map fun r => .tup [.str r.1, r.2.d]) [v0, v1, v2, s3, s4, .none, .none, .none, .none, .none] = .ok .nx [v0, v1, v2, s3', s4', .none, .none, .none, .none, .none]
  | [], s3, s4, _, h3, h4 => ⟨s3, s4, h3, h4, rfl⟩
  | r :: rs, s3, s4, h, h3, h4 => by
    obtain ⟨s3', s4', a3, a4, e⟩ := init_1 hk (v0 := v0) (v1 := v1) (v2 := v2) rs (.loc (.d (.str r.1))) (.loc (.d r.2.d)) (fun q hq => h q (List.mem_cons_of_mem _ hq)) (.inr ⟨_, rfl⟩) (.inr ⟨_, rfl⟩)
    refine ⟨s3', s4', a3, a4, ?_⟩
    obtain ⟨n1, n2⟩ := h r List.mem_cons_self
    have n3 := is_runner_ok n2 hk
    rw [List.map_cons, ← e]
    refine for_step (env1 := [v0, v1, v2, .loc (.d (.str r.1)), .loc (.d r.2.d), .none, .none, .none, .none, .none]) ?_ ?_
    · simp [flat_par h3, flat_par h4]
    · simp [c_Race___init___0, n1, n3]
theorem pc_row {k : Nat} {ps : List Pc} (h : ∀ p ∈ ps, p.Ok k) (v0 v1 v2 v3 v4 v5 v6 v7 : Slot) : compL (turnD [8, 9] (gTup 2 (gCons (gNm 8) (gCons (gNm 9) gNil))) dYes (dTup (dCons (dCallP F_as_ratio 1 [] (dCons (dVar 8) dNil)) (dCons (dCallP F_as_ratio 1 [] (dCons (dVar 9) dNil)) dNil)))) (ps.map Pc.d) [v0, v1, v2, v3, v4, v5, v6, v7, .none, .none] =
    .ok (ps.map rowD) [v0, v1, v2, v3, v4, v5, v6, v7, .none, .none] := compL_map fun p hp => by
  have o := h p hp
  have n1 := as_ratio_num o.hx
  have n2 := as_ratio_num o.hy
  simp [Pc.d, rowD, n1, n2]
def selfT (L : Rat) (rs : List NR) : T := .inst "Race" ["own_length", "own_runners"] [.d (ratD L), .dict (keysR rs) (runsK L rs)]
theorem init_step {k : Nat} {x : D} {L : Rat} (hk : k ≤ 500) (hx : NumD x L) (sL : Sz k L) (hL : 0 < L) {all dn : List NR} {r : NR} (hm : r ∈ all) (nd : (all.map (·.1)).Nodup) (ok : RnOk k r.2) (hn : r.1 ∉ dn.map (·.1)) (hl : dn.length < 100) {s4 s5 s6 s7 : Slot} (h5 : flat4 s5) (h6 : flat4 s6) (h7 : flat4 s7) :
    c_Race___init___1 [.par (selfT L dn), .loc (.d x), .loc (.d (inD all)), .loc (.d (.str r.1)), s4, s5, s6, s7, .none, .none] =
    .ok .nx [.par (selfT L (dn ++ [r])), .loc (.d x), .loc (.d (inD all)), .loc (.d (.str r.1)), s4, .loc (.d r.2.x), .loc (.d (.list (r.2.ps.map Pc.d))), .loc (.d (.list (r.2.ps.map rowD))), .none, .none] := by
  have lk : ixD (inD all) (.str r.1) = some r.2.d := by
    unfold inD
    rw [e_ixD_d]
    exact lookK_map (h := fun r : NR => r.1) nd hm
  have C := pc_row ok.ok.ok
  have f20 := ok.ok.few
  have rm := remainder_ok ok.hx hx ok.st sL (by omega) hL
  have hh : hasK (keysR dn) (.inr r.1) = false := hasK_map hn
  have l1 : r.2.ps.length < 1000000 := by omega
  have l2 : (keysR dn).length < 1000000 := by unfold keysR; rw [List.length_map]; omega
  have e1 : putKs (keysR dn) (.inr r.1) = keysR (dn ++ [r]) := by
    unfold putKs; rw [hh]; simp [keysR]
  have e2 : putDs (keysR dn) (runsK L dn) (.inr r.1) (runD L r.2) = runsK L (dn ++ [r]) := by
    unfold putDs; rw [hh]; simp [runsK]
  have e3 : T.d (.tup [ratD (rem r.2.t L), .list (r.2.ps.map rowD)]) = .d (runD L r.2) := rfl
  have e4 : D.tup [ratD (rem r.2.t L), .list (r.2.ps.map rowD)] = runD L r.2 := rfl
  have eD : r.2.d = .tup [r.2.x, .list (r.2.ps.map Pc.d)] := rfl
  rw [eD] at lk
  simp [c_Race___init___1, lk, C, rm, flat_par h5, flat_par h6, flat_par h7, l1, selfT, l2, e1, e2, e4]
theorem init_2 {k : Nat} {x : D} {L : Rat} (hk : k ≤ 500) (hx : NumD x L) (sL : Sz k L) (hL : 0 < L) {all : List NR} (nd : (all.map (·.1)).Nodup) (hok : ∀ r ∈ all, RnOk k r.2) (hl : all.length ≤ 12) : ∀ (todo dn : List NR) (s3 s4 s5 s6 s7 : Slot), all = dn ++ todo → flat4 s3 → flat4 s5 → flat4 s6 → flat4 s7 →
    ∃ s3' s5' s6' s7', (flat4 s3' ∧ flat4 s5' ∧ flat4 s6' ∧ flat4 s7') ∧ forL (gNm 3) c_Race___init___1 (todo.map fun r => .str r.1) [.par (selfT L dn), .loc (.d x), .loc (.d (inD all)), s3, s4, s5, s6, s7, .none, .none] = .ok .nx [.par (selfT L all), .loc (.d x), .loc (.d (inD all)), s3', s4, s5', s6', s7', .none, .none]
  | [], dn, s3, s4, s5, s6, s7, e, h3, h5, h6, h7 => by
    rw [List.append_nil] at e
    exact ⟨s3, s5, s6, s7, ⟨h3, h5, h6, h7⟩, by rw [e]; rfl⟩
  | r :: todo, dn, s3, s4, s5, s6, s7, e, h3, h5, h6, h7 => by
    have hm : r ∈ all := by rw [e]; simp
    have hn : r.1 ∉ dn.map (·.1) := by
      intro z
      rw [e, List.map_append, List.map_cons] at nd
      exact (List.nodup_append.mp nd).2.2 _ z _ List.mem_cons_self rfl
    have hd : dn.length < 100 := by
      have := congrArg List.length e
      rw [List.length_append] at this; omega
    have st := init_step hk hx sL hL hm nd (hok r hm) hn hd (s4 := s4) h5 h6 h7
    obtain ⟨s3', s5', s6', s7', hf, q⟩ := init_2 hk hx sL hL nd hok hl todo (dn ++ [r]) (.loc (.d (.str r.1))) s4 (.loc (.d r.2.x)) (.loc (.d (.list (r.2.ps.map Pc.d)))) (.loc (.d (.list (r.2.ps.map rowD)))) (by rw [e]; simp) (.inr ⟨_, rfl⟩) (.inr ⟨_, rfl⟩) (.inr ⟨_, rfl⟩) (.inr ⟨_, rfl⟩)
    refine ⟨s3', s5', s6', s7', hf, ?_⟩
    rw [List.map_cons, ← q]
    exact for_step (env1 := [.par (selfT L dn), .loc (.d x), .loc (.d (inD all)), .loc (.d (.str r.1)), s4, s5, s6, s7, .none, .none]) (by simp [flat_par h3]) st
theorem oSorted_d {α : Type} {rs : List α} {h : α → Str} {ds : List D} (hl : rs.length < 64) (hs : (rs.map h).Pairwise fun a b => sle a b = true) : oSorted (.dict (rs.map fun r => .inr (h r)) ds) = some (.lst (rs.map fun r => .str (h r))) := by
  unfold oSorted
  dsimp only
  rw [keysS_map]
  show (if (rs.map h).length < 64 then some (T.lst ((srtS (rs.map h)).map .str)) else none) = _
  rw [List.length_map, if_pos hl, srtS_id hs, List.map_map]
  rfl
theorem race_init {k : Nat} {x : D} {L : Rat} {rs : List NR} (hk : k ≤ 500) (hx : NumD x L) (sL : Sz k L) (hL : 0 < L) (h : RsOk k rs) : F_Race___init__ [.inst "Race" [] [], .d x, .d (inD rs)] = .ok (.d .none) [T.inst "Race" ["own_length", "own_runners", "own_parts"] [.d (ratD L), .d (runsD L rs), .d (.tup [ratD L, runsD L rs])]] := by
  have n1 := is_number_num hx
  have c1 := cmp0_ok hx sL (by omega)
  have cp : ¬ cmpQ L 0 ≤ 0 := by
    unfold cmpQ
    rw [if_neg (Rat.not_lt.mpr (Rat.le_of_lt hL)), if_pos hL]; decide
  have r1 := as_ratio_num hx
  have few := h.few
  have ne : 0 < rs.length := List.length_pos_iff.mpr h.ne
  have l0 : (keysR rs).length = rs.length := by unfold keysR; rw [List.length_map]
  have l1 : (1 : Int) ≤ ((keysR rs).length : Int) := by omega
  have l2 : ((keysR rs).length : Int) ≤ 12 := by omega
  have z := zipKD_map (h := fun r : NR => r.1) (k := fun r : NR => r.2.d) rs
  have so := oSorted_d (rs := rs) (h := fun r : NR => r.1) (ds := rs.map fun r => r.2.d) (by omega) h.srt
  obtain ⟨s3, s4, f3, f4, e1⟩ := init_1 (k := k) (by omega) (v0 := .par (.inst "Race" [] [])) (v1 := .loc (.d x)) (v2 := .loc (.d (inD rs))) rs .none .none (fun r hr => ⟨h.nm r hr, h.ok r hr⟩) (.inl rfl) (.inl rfl)
  obtain ⟨s3', s5', s6', s7', ⟨g3, g5, g6, g7⟩, e2⟩ := init_2 hk hx sL hL h.nd h.ok few rs [] s3 s4 .none .none .none rfl f3 (.inl rfl) (.inl rfl) (.inl rfl)
  unfold inD at e1 e2 ⊢
  unfold selfT at e2
  have k0 : keysR [] = [] := rfl
  have k1 : runsK L [] = [] := rfl
  rw [k0, k1] at e2
  have zz : zipKD (keysR rs) (rs.map fun r => r.2.d) = rs.map fun r => .tup [.str r.1, r.2.d] := z
  have ss : oSorted (.dict (keysR rs) (rs.map fun r => r.2.d)) = some (.lst (rs.map fun r => .str r.1)) := so
  have rD : runsD L rs = .dict (keysR rs) (runsK L rs) := rfl
  simp [F_Race___init__, m_Race___init__, c_Race___init__, n1, c1, cp, r1, l1, l2, zz, ss, e1, e2, rD]
  rcases g3 with rfl | ⟨_, rfl⟩ <;> rcases f4 with rfl | ⟨_, rfl⟩ <;> rcases g5 with rfl | ⟨_, rfl⟩ <;> rcases g6 with rfl | ⟨_, rfl⟩ <;> rcases g7 with rfl | ⟨_, rfl⟩ <;> rfl
end Pn

/-! Race's methods -/
namespace Pn
open PySem Dn Cd Mq
section
variable {k b : Nat} {L : Rat} {rs : List NR} {r : NR}
theorem names_ok : F_Race_names [.d (raceD L rs)] = .ok (.lst (rs.map fun r => .str r.1)) [] := by
  have e : oList (runsD L rs) = some (.lst (rs.map fun r => .str r.1)) := by
    show some (T.lst ((keysR rs).map kD)) = _
    unfold keysR
    rw [List.map_map]; rfl
  simp [F_Race_names, m_Race_names, c_Race_names, raceD, e]
theorem look_run (h : RsOk k rs) (hm : r ∈ rs) : lookK (keysR rs) (runsK L rs) (.inr r.1) = some (runD L r.2) := lookK_map (h := fun r : NR => r.1) (k := fun r : NR => runD L r.2) h.nd hm
theorem contains_ok (h : RsOk k rs) (hm : r ∈ rs) : F_Race___contains__ [.d (raceD L rs), .d (.str r.1)] = .ok (.d (.bool true)) [] := by
  have e : oIn (.str r.1) (runsD L rs) = some (.d (.bool true)) := by
    show (Option.map _ ((keyD (.str r.1)).map fun k => (lookK (keysR rs) (runsK L rs) k).isSome)) = _
    rw [e_keyD_s]
    show some (T.d (.bool (lookK (keysR rs) (runsK L rs) (.inr r.1)).isSome)) = _
    rw [look_run h hm]; rfl
  simp [F_Race___contains__, m_Race___contains__, c_Race___contains__, raceD, e]
theorem callP_2 {F : Fn} {a c : D} {t : T} {bk : List T} {env : Ev} (h : F [.d a, .d c] = .ok t bk) : callP F 2 [] [a, c] env = .ok t env := by
  show (match F [.d a, .d c] with | .ok t _ => _ | .exc c fs _ => _ | .stuck => _) = _
  rw [h]
theorem runner_ok (h : RsOk k rs) (hm : r ∈ rs) : F_Race_runner [.d (raceD L rs), .d (.str r.1)] = .ok (.d (runD L r.2)) [] := by
  have c := callP_2 (env := [.loc (.d (raceD L rs)), .loc (.d (.str r.1))]) (contains_ok (L := L) h hm)
  have e : ixD (runsD L rs) (.str r.1) = some (runD L r.2) := look_run h hm
  have i : instC "Race" (raceD L rs) = true := by simp [raceD, instC]
  have q : callQ F_Race___contains__ 2 [] [raceD L rs, .str r.1] [.loc (.d (raceD L rs)), .loc (.d (.str r.1))] = .ok (.d (.bool true)) [.loc (.d (raceD L rs)), .loc (.d (.str r.1))] := by unfold callQ; rw [c]
  have t : aB (dInO "Race" F_Race___contains__ true (dVar 1) (dVar 0)) [.loc (.d (raceD L rs)), .loc (.d (.str r.1))] = .ok false [.loc (.d (raceD L rs)), .loc (.d (.str r.1))] := by
    have : dInO "Race" F_Race___contains__ true (dVar 1) (dVar 0) [.loc (.d (raceD L rs)), .loc (.d (.str r.1))] = .ok (.d (.bool false)) [.loc (.d (raceD L rs)), .loc (.d (.str r.1))] := by
      unfold dInO
      simp [i, q, tB']
    rw [e_aB, this]; rfl
  have p : dPl 0 [("Race", "own_runners")] [.loc (.d (raceD L rs)), .loc (.d (.str r.1))] = .ok (.d (runsD L rs)) [.loc (.d (raceD L rs)), .loc (.d (.str r.1))] := by simp [raceD]
  simp [-e_aB, -e_dPl, F_Race_runner, m_Race_runner, c_Race_runner, t, p, e]
theorem instOk_race (m : Str) (hm : m ∉ (["own_length", "own_runners", "own_parts"] : List Str)) : instOk "Race" m (raceD L rs) = true := by
  simp only [raceD, instOk, decide_true, Bool.true_and]
  exact decide_eq_true hm
theorem pieces_ok (h : RsOk k rs) (hm : r ∈ rs) : F_Race_pieces [.d (raceD L rs), .d (.str r.1)] = .ok (.lst (r.2.ps.map rowD)) [] := by
  have c := callP_2 (env := [.loc (.d (raceD L rs)), .loc (.d (.str r.1))]) (runner_ok (L := L) h hm)
  have i := instOk_race (L := L) (rs := rs) "runner" (by decide +kernel)
  have m : dMethP "Race" "runner" F_Race_runner 2 [] (dVar 0) (dCons (dVar 1) dNil) [.loc (.d (raceD L rs)), .loc (.d (.str r.1))] = .ok (.d (runD L r.2)) [.loc (.d (raceD L rs)), .loc (.d (.str r.1))] := by
    unfold dMethP
    simp [-e_callP, i, c]
  have e : ixD (runD L r.2) (.int 1) = some (.list (r.2.ps.map rowD)) := by simp [runD]
  have o : oList (.list (r.2.ps.map rowD)) = some (.lst (r.2.ps.map rowD)) := rfl
  simp [F_Race_pieces, m_Race_pieces, c_Race_pieces, m, e, o]
theorem start_ok (h : RsOk k rs) (hm : r ∈ rs) : F_Race_start [.d (raceD L rs), .d (.str r.1)] = .ok (.d (ratD (rem r.2.t L))) [] := by
  have c := callP_2 (env := [.loc (.d (raceD L rs)), .loc (.d (.str r.1))]) (runner_ok (L := L) h hm)
  have i := instOk_race (L := L) (rs := rs) "runner" (by decide +kernel)
  have m : dMethP "Race" "runner" F_Race_runner 2 [] (dVar 0) (dCons (dVar 1) dNil) [.loc (.d (raceD L rs)), .loc (.d (.str r.1))] = .ok (.d (runD L r.2)) [.loc (.d (raceD L rs)), .loc (.d (.str r.1))] := by
    unfold dMethP
    simp [-e_callP, i, c]
  have e : ixD (runD L r.2) (.int 0) = some (ratD (rem r.2.t L)) := by simp [runD]
  simp [F_Race_start, m_Race_start, c_Race_start, m, e]
theorem length_ok : F_Race_length [.d (raceD L rs)] = .ok (.d (ratD L)) [] := by
  simp [F_Race_length, m_Race_length, c_Race_length, raceD]
end
end Pn

/-! pieces as numbers -/
namespace Pn
open PySem Dn Cd Mq
def rowQ (p : Rat × Rat) : D := .tup [ratD p.1, ratD p.2]
def pcs (ps : List Pc) : Pcs := ps.map fun p => (p.t, p.s)
theorem rows_eq (ps : List Pc) : ps.map rowD = (pcs ps).map rowQ := by unfold pcs; rw [List.map_map]; rfl
theorem cmpQ_lt_iff (p q : Rat) : cmpQ p q < 0 ↔ p < q := by
  constructor
  · intro h
    unfold cmpQ at h
    by_cases z : p < q
    · exact z
    · rw [if_neg z] at h
      split at h <;> simp at h
  · exact cmpQ_lt
theorem PcsOk.q {k : Nat} {ps : List Pc} (h : PcsOk k ps) : PzOk k (pcs ps) where
  l1 := by unfold pcs; rw [List.length_map]; exact List.length_pos_iff.mpr h.ne
  z := fun p hp => by
    obtain ⟨q, hq, rfl⟩ := List.mem_map.mp hp
    exact ⟨(h.ok q hq).st, (h.ok q hq).ss⟩
  p := fun p hp => by
    obtain ⟨q, hq, rfl⟩ := List.mem_map.mp hp
    exact h.nn q hq
  h := by
    have h0 := h.h0
    unfold pT pcs
    rw [List.getD_eq_getElem?_getD, List.getElem?_map]
    cases e : ps[0]? with
    | none => rw [e] at h0; cases h0
    | some p => rw [e] at h0; simpa using h0
  lt := by
    unfold pcs
    rw [List.map_map]
    refine List.pairwise_iff_getElem.mpr fun i j hi hj hij => ?_
    rw [List.length_map] at hi hj
    rw [List.getElem_map, List.getElem_map]
    show (ps[i]).t < (ps[j]).t
    have step : ∀ (d i : Nat) (h1 : i + d + 1 < ps.length), (ps[i]'(by omega)).t < (ps[i + d + 1]'h1).t := by
      intro d
      induction d with
      | zero => intro i h1; exact h.inc i _ _ (List.getElem?_eq_getElem _) (List.getElem?_eq_getElem _)
      | succ d ih =>
        intro i h1
        exact rlt_trans (ih i (by omega)) (h.inc (i + d + 1) _ _ (List.getElem?_eq_getElem _) (List.getElem?_eq_getElem _))
    have := step (j - i - 1) i (by omega)
    have e : i + (j - i - 1) + 1 = j := by omega
    simp only [e] at this
    exact this
section
variable {k b : Nat} {L : Rat} {rs : List NR} {r : NR} {x : D} {t : Rat}
theorem callP_3 {F : Fn} {a c d : D} {t : T} {bk : List T} {env : Ev} (h : F [.d a, .d c, .d d] = .ok t bk) : callP F 3 [] [a, c, d] env = .ok t env := by
  show (match F [.d a, .d c, .d d] with | .ok t _ => _ | .exc c fs _ => _ | .stuck => _) = _
  rw [h]
theorem prop_len {env : Ev} {d : DE} (hd : d env = .ok (.d (raceD L rs)) env) : dProp "Race" F_Race_length d env = .ok (.d (ratD L)) env := by
  have i : instC "Race" (raceD L rs) = true := by simp [raceD, instC]
  have c : callP F_Race_length 1 [] [raceD L rs] env = .ok (.d (ratD L)) env := by
    have := length_ok (L := L) (rs := rs)
    simp [this]
  have q : callQ F_Race_length 1 [] [raceD L rs] env = .ok (.d (ratD L)) env := by unfold callQ; rw [c]
  unfold dProp
  rw [hd]
  simp [i, q]
end
end Pn

/-! the pool of a law, what is drawn -/
namespace Pn
open PySem Dn Cd Mq
def poolT (c s : Int) : T := .lst [.int c, .int s]
def SdOk (s : Int) : Prop := 0 ≤ s ∧ s < 2147483647
theorem mulOk_small {a b : Int} (h1 : a.natAbs < 2 ^ 64) (h2 : b.natAbs < 2 ^ 64) : mulOk a b = true := mulOk_of h1 h2 (by decide) (by decide) (by decide)
theorem divOk_small {b : Int} (h0 : b ≠ 0) (h : b.natAbs < 2 ^ 64) : divOk b = true := divOk_of h0 h (by decide) (by decide)
theorem draw_ok {c s m : Int} (hs : SdOk s) (h1 : 1 ≤ m) (h2 : m < 1000) : ∃ v c' s', SdOk s' ∧ 0 ≤ v ∧ v < m ∧ F__law_draw [poolT c s, .d (.int m)] = .ok (.d (.int v)) [poolT c' s'] := by
  have hm0 : m ≠ 0 := by omega
  have d1 : divOk m = true := divOk_small hm0 (by omega)
  by_cases hc : 0 < c
  · refine ⟨c.fmod m, c.fdiv m, s, hs, Int.fmod_nonneg_of_pos _ (by omega), Int.fmod_lt_of_pos _ (by omega), ?_⟩
    simp [F__law_draw, m__law_draw, c__law_draw, poolT, hc, hm0, d1, dRetV]
  · obtain ⟨s0, s1⟩ := hs
    have m1 : mulOk s 48271 = true := mulOk_small (by omega) (by decide)
    have t0 : 0 ≤ (s * 48271 + 11).fmod 2147483647 := Int.fmod_nonneg_of_pos _ (by decide)
    have t1 : (s * 48271 + 11).fmod 2147483647 < 2147483647 := Int.fmod_lt_of_pos _ (by decide)
    generalize hs' : (s * 48271 + 11).fmod 2147483647 = s' at t0 t1
    have m2 : mulOk s' s' = true := mulOk_small (by omega) (by omega)
    have d2 : divOk 64 = true := by decide
    refine ⟨(((s' * s').fmod 2147483629).fdiv 64).fmod m, c, s', ⟨t0, t1⟩, Int.fmod_nonneg_of_pos _ (by omega), Int.fmod_lt_of_pos _ (by omega), ?_⟩
    simp [F__law_draw, m__law_draw, c__law_draw, poolT, hc, hm0, d1, d2, m1, m2, hs']
/-- a drawn number -/
structure DrNum (low : Int) (x : D) (q : Rat) : Prop where
  hx : NumD x q
  sz : Sz 10 q
  nn : 0 ≤ low → 0 ≤ q
theorem int_sz {n : Int} (h : n.natAbs < 2 ^ 10) : Sz 10 (n : Rat) := Sz.int (by decide) h
theorem number_ok {c s low high : Int} (hs : SdOk s) (h1 : low ≤ high) (h2 : -100 ≤ low) (h3 : high ≤ 100) : ∃ x q c' s', SdOk s' ∧ DrNum low x q ∧ F__law_number [poolT c s, .d (.int low), .d (.int high)] = .ok (.d x) [poolT c' s'] := by
  obtain ⟨v1, c1, s1, k1, a1, b1, e1⟩ := draw_ok (c := c) (m := high - low + 1) hs (by omega) (by omega)
  obtain ⟨v2, c2, s2, k2, a2, b2, e2⟩ := draw_ok (c := c1) (m := 3) k1 (by decide) (by decide)
  by_cases hv : 0 < v2
  · refine ⟨.int (low + v1), ((low + v1 : Int) : Rat), c2, s2, k2, ⟨NumD.int _, int_sz (by omega), fun h => by exact_mod_cast (show (0 : Int) ≤ low + v1 by omega)⟩, ?_⟩
    simp [F__law_number, m__law_number, m__law_draw, c__law_number, e1, e2, hv, dRetV]
  · obtain ⟨v3, c3, s3, k3, a3, b3, e3⟩ := draw_ok (c := c2) (m := 3) k2 (by decide) (by decide)
    obtain ⟨v4, c4, s4, k4, a4, b4, e4⟩ := draw_ok (c := c3) (m := 2) k3 (by decide) (by decide)
    have r := ratio_ok (n := (low + v1) * 2 + v3) (d := 2 + v4) (k := 10) (by omega) (by omega) (by omega) (by decide) (by decide)
    have m1 : mulOk (low + v1) 2 = true := mulOk_small (by omega) (by decide)
    obtain ⟨d, hd⟩ : ∃ d : Nat, (2 + v4 : Int) = (d : Int) := ⟨(2 + v4).toNat, by omega⟩
    have e : Rat.divInt ((low + v1) * 2 + v3) (2 + v4) = mkRat ((low + v1) * 2 + v3) d := by rw [hd, Rat.divInt_ofNat]
    refine ⟨ratD (Rat.divInt ((low + v1) * 2 + v3) (2 + v4)), Rat.divInt ((low + v1) * 2 + v3) (2 + v4), c4, s4, k4, ⟨NumD.rat _, ?_, fun h => ?_⟩, ?_⟩
    · rw [e]; exact Sz.mk (by omega) (by omega) (by omega)
    · exact Rat.divInt_nonneg (by omega) (by omega)
    · simp [F__law_number, m__law_number, m__law_draw, c__law_number, e1, e2, e3, e4, hv, m1, r]
theorem choose_ok {c s : Int} {ds : List D} (hs : SdOk s) (h1 : ds ≠ []) (h2 : ds.length < 1000) : ∃ x c' s', SdOk s' ∧ x ∈ ds ∧ F__law_choose [poolT c s, .d (.list ds)] = .ok (.d x) [poolT c' s'] := by
  have l1 : 0 < ds.length := List.length_pos_iff.mpr h1
  obtain ⟨v, c1, s1, k1, a1, b1, e1⟩ := draw_ok (c := c) (m := (ds.length : Int)) hs (by omega) (by omega)
  obtain ⟨i, rfl⟩ : ∃ i : Nat, v = (i : Int) := ⟨v.toNat, by omega⟩
  have hi : i < ds.length := by omega
  have a : L2.atI ds (i : Int) = some ds[i] := by
    unfold L2.atI
    rw [ixN_lt hi]
    exact List.getElem?_eq_getElem hi
  refine ⟨ds[i], c1, s1, k1, List.getElem_mem hi, ?_⟩
  simp [F__law_choose, m__law_choose, m__law_draw, c__law_choose, e1, a]
theorem lt_add {p g : Rat} (h : 0 < g) : p < p + g := by
  refine Rat.not_le.mp fun z => Rat.not_le.mpr h ?_
  have : p + g ≤ p + 0 := by rw [Rat.add_zero]; exact z
  exact Rat.add_le_add_left.mp this
theorem mk_pos {n : Int} {d : Nat} (hn : 0 < n) (hd : d ≠ 0) : 0 < mkRat n d := by
  have h1 : 0 ≤ mkRat n d := by rw [← Rat.divInt_ofNat]; exact Rat.divInt_nonneg (by omega) (by omega)
  rcases Rat.le_iff_lt_or_eq.mp h1 with z | z
  · exact z
  · have := (Rat.mkRat_eq_zero hd).mp z.symm
    omega
theorem PcsOk.snoc {k : Nat} {ps : List Pc} {p : Pc} {tq : Rat} (h : PcsOk k ps) (hl : ∀ i q, ps[i]? = some q → i + 1 = ps.length → q.t = tq) (hp : p.Ok k) (lt : tq < p.t) (hn : 0 ≤ p.t) (hf : ps.length < 20) : PcsOk k (ps ++ [p]) where
  ok := fun q hq => (List.mem_append.mp hq).elim (h.ok q) fun z => by rw [List.mem_singleton.mp z]; exact hp
  ne := by simp
  few := by rw [List.length_append]; show ps.length + 1 ≤ 20; omega
  h0 := by
    have l := List.length_pos_iff.mpr h.ne
    rw [List.getElem?_append_left l]; exact h.h0
  inc := fun i q r e1 e2 => by
    by_cases hi : i + 1 < ps.length
    · rw [List.getElem?_append_left (by omega)] at e1
      rw [List.getElem?_append_left hi] at e2
      exact h.inc i q r e1 e2
    · have hb := (List.getElem?_eq_some_iff.mp e2).1
      rw [List.length_append] at hb
      have hb : i + 1 = ps.length := by have : i + 1 < ps.length + 1 := hb; omega
      rw [List.getElem?_append_left (by omega)] at e1
      rw [hb, List.getElem?_append_right (Nat.le_refl _)] at e2
      have e2 : p = r := by simpa using e2
      rw [hl i q e1 hb, ← e2]; exact lt
  nn := fun q hq => (List.mem_append.mp hq).elim (h.nn q) fun z => by rw [List.mem_singleton.mp z]; exact hn
theorem last_snoc {ps : List Pc} {p : Pc} : ∀ i q, (ps ++ [p])[i]? = some q → i + 1 = (ps ++ [p]).length → q.t = p.t := by
  intro i q e h
  rw [List.length_append] at h
  have h : i = ps.length := by have : i + 1 = ps.length + 1 := h; omega
  subst h
  rw [List.getElem?_append_right (Nat.le_refl _)] at e
  have e : p = q := by simpa using e
  rw [e]
theorem pieces_loop : ∀ (is : List Int) (j : Nat) (c s : Int) (ps : List Pc) (x : D) (tq : Rat) (s3 : Slot), SdOk s → flat4 s3 → PcsOk 10 ps → (∀ i q, ps[i]? = some q → i + 1 = ps.length → q.t = tq) → NumD x tq → Sz (1 + 4 * j) tq → 0 ≤ tq → ps.length = j + 1 → j + is.length ≤ 2 →
    ∃ ps' c' s' x' s3', SdOk s' ∧ flat4 s3' ∧ (PcsOk 10 ps' ∧ ps'.length ≤ 3) ∧ forL (gNm 3) c__law_pieces_0 (is.map .int) [.par (poolT c s), .loc (.lst (ps.map Pc.d)), .loc (.d x), s3] = .ok .nx [.par (poolT c' s'), .loc (.lst (ps'.map Pc.d)), .loc (.d x'), s3']
  | [], j, c, s, ps, x, tq, s3, hs, h3, hp, hl, hx, sz, h0, hj, hle => ⟨ps, c, s, x, s3, hs, h3, ⟨hp, by simp at hle; omega⟩, rfl⟩
  | n :: is, j, c, s, ps, x, tq, s3, hs, h3, hp, hl, hx, sz, h0, hj, hle => by
    rw [List.length_cons] at hle
    obtain ⟨v1, c1, s1, k1, a1, b1, e1⟩ := draw_ok (c := c) (m := 6) hs (by decide) (by decide)
    obtain ⟨v2, c2, s2, k2, a2, b2, e2⟩ := draw_ok (c := c1) (m := 3) k1 (by decide) (by decide)
    obtain ⟨y, q, c3, s3', k3, dn, e3⟩ := number_ok (c := c2) (low := -4) (high := 4) k2 (by decide) (by decide) (by decide)
    have r := ratio_ok (n := 1 + v1) (d := 1 + v2) (k := 3) (by omega) (by omega) (by omega) (by decide) (by decide)
    obtain ⟨d, hd⟩ : ∃ d : Nat, (1 + v2 : Int) = (d : Int) := ⟨(1 + v2).toNat, by omega⟩
    have e : Rat.divInt (1 + v1) (1 + v2) = mkRat (1 + v1) d := by rw [hd, Rat.divInt_ofNat]
    have rsz : Sz 3 (Rat.divInt (1 + v1) (1 + v2)) := by rw [e]; exact Sz.mk (by omega) (by omega) (by omega)
    have rpos : 0 < Rat.divInt (1 + v1) (1 + v2) := by
      rw [hd, Rat.divInt_ofNat]
      exact mk_pos (by omega) (by omega)
    generalize Rat.divInt (1 + v1) (1 + v2) = g at r rsz rpos
    have pl := plus_ok hx (NumD.rat g) sz rsz (by omega)
    have sz' : Sz (1 + 4 * (j + 1)) (tq + g) := (sz.add rsz).up (by omega)
    have lt : tq < tq + g := lt_add rpos
    have np : 0 ≤ tq + g := Rat.le_trans h0 (Rat.le_of_lt lt)
    obtain ⟨ps', c', s', x', s3'', q1, q2, q3, q4⟩ := pieces_loop is (j + 1) c3 s3' (ps ++ [⟨ratD (tq + g), tq + g, y, q⟩]) (ratD (tq + g)) (tq + g) (.loc (.d (.int n))) k3 (.inr ⟨_, rfl⟩)
      (hp.snoc hl ⟨NumD.rat _, dn.hx, sz'.up (by omega), dn.sz⟩ lt np (by omega)) last_snoc (NumD.rat _) sz' np (by rw [List.length_append, hj]; rfl) (by omega)
    refine ⟨ps', c', s', x', s3'', q1, q2, q3, ?_⟩
    rw [List.map_cons, ← q4]
    have ln : ps.length < 1000000 := by omega
    refine for_step (env1 := [.par (poolT c s), .loc (.lst (ps.map Pc.d)), .loc (.d x), .loc (.d (.int n))]) (by simp [flat_par h3]) ?_
    simp [c__law_pieces_0, m__law_draw, m__law_number, e1, e2, e3, r, pl, ln, Pc.d]
theorem law_pieces_ok {c s : Int} (hs : SdOk s) : ∃ ps c' s', SdOk s' ∧ (PcsOk 10 ps ∧ ps.length ≤ 3) ∧ F__law_pieces [poolT c s] = .ok (.lst (ps.map Pc.d)) [poolT c' s'] := by
  obtain ⟨y, q, c1, s1, k1, dn, e1⟩ := number_ok (c := c) (low := -4) (high := 4) hs (by decide) (by decide) (by decide)
  obtain ⟨v, c2, s2, k2, a2, b2, e2⟩ := draw_ok (c := c1) (m := 3) k1 (by decide) (by decide)
  obtain ⟨n, rfl⟩ : ∃ n : Nat, v = (n : Int) := ⟨v.toNat, by omega⟩
  have hp : PcsOk 10 [⟨.int 0, 0, y, q⟩] := by
    refine ⟨fun p hp => ?_, List.cons_ne_nil _ _, (show 1 ≤ 20 by decide), rfl, fun i p q e1 e2 => ?_, fun p hp => ?_⟩
    · rw [List.mem_singleton.mp hp]; exact ⟨zero_num, dn.hx, zero_sz.up (by decide), dn.sz⟩
    · simp at e2
    · rw [List.mem_singleton.mp hp]; exact Rat.le_refl
  obtain ⟨ps', c', s', x', s3', q1, q2, q3, q4⟩ := pieces_loop ((List.range n).map fun i : Nat => (i : Int)) 0 c2 s2 [⟨.int 0, 0, y, q⟩] (.int 0) 0 .none k2 (.inl rfl) hp
    (fun i p e h => by
      have h : i = 0 := by have : i + 1 = 1 := h; omega
      subst h
      have e : (⟨.int 0, 0, y, q⟩ : Pc) = p := by simpa using e
      rw [← e]) zero_num (zero_sz.up (by decide)) Rat.le_refl rfl (by rw [List.length_map, List.length_range]; omega)
  refine ⟨ps', c', s', q1, q3, ?_⟩
  have r : dRng rng1D (dCons (dCallO m__law_draw F__law_draw [] (rO 0 (rD (dC (.int 3)) rNil))) dNil) [.par (poolT c1 s1), .loc (.lst [.tup [.int 0, y]]), .loc (.d (.int 0)), .none] = .ok ((List.range n).map fun i : Nat => D.int i) [.par (poolT c2 s2), .loc (.lst [.tup [.int 0, y]]), .loc (.d (.int 0)), .none] :=
    dRng1 (by simp [m__law_draw, e2]) (by omega)
  have em : (((List.range n).map fun i : Nat => (i : Int)).map D.int) = (List.range n).map fun i : Nat => D.int i := by rw [List.map_map]; rfl
  rw [em] at q4
  have q5 : forL (gNm 3) c__law_pieces_0 ((List.range n).map fun i : Nat => D.int i) [.par (poolT c2 s2), .loc (.lst [.tup [.int 0, y]]), .loc (.d (.int 0)), .none] = _ := q4
  rcases q2 with rfl | ⟨_, rfl⟩ <;> simp [F__law_pieces, m__law_pieces, c__law_pieces, m__law_number, e1, r, q5, dRetV]
end Pn

/-! the drawn race -/
namespace Pn
open PySem Dn Cd Mq
theorem nm_a : F_is_name [.d (.str "a")] = .ok (.d (.bool true)) [] := by kernel_rfl
theorem nm_b : F_is_name [.d (.str "b")] = .ok (.d (.bool true)) [] := by kernel_rfl
theorem nm_c : F_is_name [.d (.str "c")] = .ok (.d (.bool true)) [] := by kernel_rfl
theorem nm_long : F_is_name [.d (.str "long")] = .ok (.d (.bool true)) [] := by kernel_rfl
def raceT (L : Rat) (rs : List NR) : T := .inst "Race" ["own_length", "own_runners", "own_parts"] [.d (ratD L), .d (runsD L rs), .d (.tup [ratD L, runsD L rs])]
theorem raceT_frz (L : Rat) (rs : List NR) : (raceT L rs).frz = raceD L rs := rfl
def dictT' (rs : List NR) : T := .dict (keysR rs) (rs.map fun r => r.2.d)
theorem race_loop {v1 : Slot} : ∀ (ns : List Str) (rs : List NR) (c s : Int) (s3 : Slot), SdOk s → flat4 s3 → (rs.map (·.1) ++ ns).Nodup → (∀ r ∈ rs, RnOk 10 r.2 ∧ r.2.ps.length ≤ 3) → rs.length + ns.length ≤ 20 →
    ∃ rs' c' s' s3', SdOk s' ∧ flat4 s3' ∧ rs'.map (·.1) = rs.map (·.1) ++ ns ∧ (∀ r ∈ rs', RnOk 10 r.2 ∧ r.2.ps.length ≤ 3) ∧ forL (gNm 3) c__law_race_0 (ns.map .str) [.par (poolT c s), v1, .loc (dictT' rs), s3] = .ok .nx [.par (poolT c' s'), v1, .loc (dictT' rs'), s3']
  | [], rs, c, s, s3, hs, h3, nd, ok, hl => ⟨rs, c, s, s3, hs, h3, by simp, ok, rfl⟩
  | n :: ns, rs, c, s, s3, hs, h3, nd, ok, hl => by
    rw [List.length_cons] at hl
    obtain ⟨x, q, c1, s1, k1, dn, e1⟩ := number_ok (c := c) (low := -3) (high := 9) hs (by decide) (by decide) (by decide)
    obtain ⟨ps, c2, s2, k2, hp, e2⟩ := law_pieces_ok (c := c1) k1
    have hn : n ∉ rs.map (·.1) := fun z => (List.nodup_append.mp nd).2.2 n z n List.mem_cons_self rfl
    obtain ⟨rs', c', s', s3', q1, q2, q3, q4, q5⟩ := race_loop (v1 := v1) ns (rs ++ [(n, ⟨x, q, ps⟩)]) c2 s2 (.loc (.d (.str n))) k2 (.inr ⟨_, rfl⟩) (by rw [List.map_append, List.append_assoc]; exact nd)
      (fun r hr => (List.mem_append.mp hr).elim (ok r) fun z => by rw [List.mem_singleton.mp z]; exact ⟨⟨dn.hx, dn.sz, hp.1⟩, hp.2⟩) (by rw [List.length_append]; show rs.length + 1 + _ ≤ 20; omega)
    refine ⟨rs', c', s', s3', q1, q2, by rw [q3, List.map_append, List.append_assoc]; rfl, q4, ?_⟩
    rw [List.map_cons, ← q5]
    have hh : hasK (keysR rs) (.inr n) = false := hasK_map hn
    have l2 : (keysR rs).length < 1000000 := by unfold keysR; rw [List.length_map]; omega
    have p1 : putKs (keysR rs) (.inr n) = keysR (rs ++ [(n, ⟨x, q, ps⟩)]) := by unfold putKs; rw [hh]; simp [keysR]
    have p2 : putDs (keysR rs) (rs.map fun r => r.2.d) (.inr n) (.tup [x, .list (ps.map Pc.d)]) = ((rs ++ [(n, ⟨x, q, ps⟩)] : List NR)).map fun r => r.2.d := by unfold putDs; rw [hh]; simp [Rn.d]
    refine for_step (env1 := [.par (poolT c s), v1, .loc (dictT' rs), .loc (.d (.str n))]) (by simp [flat_par h3]) ?_
    unfold dictT'
    generalize ((rs ++ [(n, ⟨x, q, ps⟩)] : List NR).map fun r => r.2.d) = N2 at p2
    generalize keysR (rs ++ [(n, ⟨x, q, ps⟩)]) = N1 at p1
    simp [c__law_race_0, m__law_number, m__law_pieces, e1, e2, l2, p1, p2]
theorem len_cases {x : D} (h : x ∈ [D.int 10, .int 7, .int 1, .tup [.int 5, .int 2], .int 12, .int 3]) : ∃ L : Rat, NumD x L ∧ Sz 10 L ∧ 0 < L := by
  have half : ratD (5 / 2) = .tup [.int 5, .int 2] := by
    have h1 : (5 / 2 : Rat).num = 5 := by decide +kernel
    have h2 : (5 / 2 : Rat).den = 2 := by decide +kernel
    unfold ratD; rw [h1, h2]; rfl
  simp only [List.mem_cons, List.not_mem_nil, or_false] at h
  rcases h with rfl | rfl | rfl | rfl | rfl | rfl
  · exact ⟨10, .inl ⟨10, rfl, rfl⟩, by constructor <;> decide +kernel, by decide +kernel⟩
  · exact ⟨7, .inl ⟨7, rfl, rfl⟩, by constructor <;> decide +kernel, by decide +kernel⟩
  · exact ⟨1, .inl ⟨1, rfl, rfl⟩, by constructor <;> decide +kernel, by decide +kernel⟩
  · exact ⟨5 / 2, .inr half.symm, by constructor <;> decide +kernel, by decide +kernel⟩
  · exact ⟨12, .inl ⟨12, rfl, rfl⟩, by constructor <;> decide +kernel, by decide +kernel⟩
  · exact ⟨3, .inl ⟨3, rfl, rfl⟩, by constructor <;> decide +kernel, by decide +kernel⟩
theorem rsOk_of {k : Nat} {rs : List NR} {ns : List Str} (e : rs.map (·.1) = ns) (nm : ∀ n ∈ ns, F_is_name [.d (.str n)] = .ok (.d (.bool true)) []) (ok : ∀ r ∈ rs, RnOk k r.2) (ne : ns ≠ []) (few : ns.length ≤ 12) (srt : ns.Pairwise fun a b => sle a b = true) (nd : ns.Nodup) : RsOk k rs where
  nm := fun r hr => nm r.1 (e ▸ List.mem_map_of_mem hr)
  ok := ok
  ne := fun z => ne (by rw [← e, z]; rfl)
  few := by rw [← List.length_map (f := fun r : NR => r.1), e]; exact few
  srt := e ▸ srt
  nd := e ▸ nd
theorem lay_a : (PyData.str "a").canLay0 = true := by kernel_rfl
theorem lay_b : (PyData.str "b").canLay0 = true := by kernel_rfl
theorem lay_c : (PyData.str "c").canLay0 = true := by kernel_rfl
theorem law_race_ok3 {c s m : Int} (hs : SdOk s) (h1 : 1 ≤ m) (h2 : m ≤ 3) : ∃ L rs c' s', SdOk s' ∧ (RsOk 10 rs ∧ ∀ r ∈ rs, r.2.ps.length ≤ 3 ∧ (PyData.str r.1).canLay0 = true) ∧ rs.length ≤ 3 ∧ Sz 10 L ∧ 0 < L ∧ F__law_race [poolT c s, .d (.int m)] = .ok (raceT L rs) [poolT c' s'] := by
  obtain ⟨ns, hc, hns, nm, srt, nd, few⟩ : ∃ ns : List Str, sliceD none (some m) (.list [.str "a", .str "b", .str "c", .str "d"]) = some (.lst (ns.map .str)) ∧ ns ≠ [] ∧ (∀ n ∈ ns, F_is_name [.d (.str n)] = .ok (.d (.bool true)) [] ∧ (PyData.str n).canLay0 = true) ∧ (ns.Pairwise fun a b => sle a b = true) ∧ ns.Nodup ∧ ns.length ≤ 3 := by
    have hm : m = 1 ∨ m = 2 ∨ m = 3 := by omega
    rcases hm with rfl | rfl | rfl
    · refine ⟨["a"], rfl, List.cons_ne_nil _ _, fun n hn => ?_, by decide +kernel, by decide +kernel, by decide⟩
      rw [List.mem_singleton.mp hn]; exact ⟨nm_a, lay_a⟩
    · refine ⟨["a", "b"], rfl, List.cons_ne_nil _ _, fun n hn => ?_, by decide +kernel, by decide +kernel, by decide⟩
      simp only [List.mem_cons, List.not_mem_nil, or_false] at hn
      rcases hn with rfl | rfl
      · exact ⟨nm_a, lay_a⟩
      · exact ⟨nm_b, lay_b⟩
    · refine ⟨["a", "b", "c"], rfl, List.cons_ne_nil _ _, fun n hn => ?_, by decide +kernel, by decide +kernel, by decide⟩
      simp only [List.mem_cons, List.not_mem_nil, or_false] at hn
      rcases hn with rfl | rfl | rfl
      · exact ⟨nm_a, lay_a⟩
      · exact ⟨nm_b, lay_b⟩
      · exact ⟨nm_c, lay_c⟩
  obtain ⟨rs, c1, s1, s3, k1, f3, e1, ok, q⟩ := race_loop (v1 := .loc (.d (.int m))) ns [] c s .none hs (.inl rfl) (by simpa using nd) (fun r hr => by cases hr) (by simp; omega)
  obtain ⟨x, c2, s2, k2, hx, e2⟩ := choose_ok (c := c1) (ds := [D.int 10, .int 7, .int 1, .tup [.int 5, .int 2], .int 12, .int 3]) k1 (List.cons_ne_nil _ _) (by decide)
  obtain ⟨L, nx, sL, pL⟩ := len_cases hx
  have e1 : rs.map (·.1) = ns := by simpa using e1
  have R := rsOk_of e1 (fun n hn => (nm n hn).1) (fun r hr => (ok r hr).1) hns (by omega) srt nd
  have rc := fun env => callM_2 (env := env) (race_init (x := x) (L := L) (by decide) nx sL pL R)
  refine ⟨L, rs, c2, s2, k2, ⟨R, fun r hr => ⟨(ok r hr).2, (nm r.1 (e1 ▸ List.mem_map_of_mem (f := fun z : NR => z.1) hr)).2⟩⟩, by rw [← List.length_map (f := fun r : NR => r.1), e1]; exact few, sL, pL, ?_⟩
  have q : forL (gNm 3) c__law_race_0 (ns.map .str) [.par (poolT c s), .loc (.d (.int m)), .loc (.dict [] []), .none] = .ok .nx [.par (poolT c1 s1), .loc (.d (.int m)), .loc (.dict (keysR rs) (rs.map fun r => r.2.d)), s3] := q
  have iD : inD rs = .dict (keysR rs) (rs.map fun r => r.2.d) := rfl
  rw [iD] at rc
  generalize keysR rs = KK at q rc
  generalize (rs.map fun r => r.2.d) = DD at q rc
  rcases f3 with rfl | ⟨_, rfl⟩ <;> simp [F__law_race, m__law_race, c__law_race, m__law_choose, hc, q, e2, rc, raceT]
theorem law_race_ok {c s m : Int} (hs : SdOk s) (h1 : 1 ≤ m) (h2 : m ≤ 3) : ∃ L rs c' s', SdOk s' ∧ RsOk 10 rs ∧ rs.length ≤ 3 ∧ Sz 10 L ∧ 0 < L ∧ F__law_race [poolT c s, .d (.int m)] = .ok (raceT L rs) [poolT c' s'] := by
  obtain ⟨L, rs, c1, s1, a, b, e⟩ := law_race_ok3 (c := c) hs h1 h2
  exact ⟨L, rs, c1, s1, a, b.1, e⟩
theorem pool_ok (ns : List Int) {k : Nat} (hk : k < 8) : ∃ c s, SdOk s ∧ F__law_pool [.d (.scr ns), .d (.int k)] = .ok (poolT c s) [] := by
  have ls : oLen (.scr ns) = some (.d (.int ns.length)) := rfl
  have m1 : mulOk 7919 (k : Int) = true := mulOk_small (by decide) (by omega)
  have m2 : mulOk (7919 * (k : Int)) (k : Int) = true := mulOk_small (by omega) (by omega)
  have p2 : powOk 10 18 = true := by decide
  have main : ∀ cell : Int, ∃ c s, SdOk s ∧ dSeq (dSet 3 (dBn oMod (dBn oPow (dBn oAdd (dBn oAdd (dBp oMod 2 (frzD (dC (.int 2147483629)))) (frzD (dBn oMul (dBn oMul (dC (.int 7919)) (pk 1)) (pk 1)))) (frzD (dC (.int 31)))) (frzD (dC (.int 3)))) (frzD (dC (.int 2147483647))))) (dSeq (dIte (aB (dBp oLt 2 (frzD (dBn oPow (dC (.int 10)) (frzD (dC (.int 18))))))) (dSeq (dSet 2 (dC (.int 0))) dSkip) dSkip) (dSeq (dRet (dLst (dCons (dVar 2) (dCons (dVar 3) dNil)))) dSkip))
      [.loc (.d (.scr ns)), .loc (.d (.int k)), .loc (.d (.int cell)), .none] = .ok (.rt (poolT c s)) [.loc (.d (.scr ns)), .loc (.d (.int k)), .loc (.d (.int c)), .loc (.d (.int s))] := by
    intro cell
    have q0 : 0 ≤ cell.fmod 2147483629 := Int.fmod_nonneg_of_pos _ (by decide)
    have q1 : cell.fmod 2147483629 < 2147483629 := Int.fmod_lt_of_pos _ (by decide)
    have kk : 7919 * (k : Int) * k ≤ 7919 * 8 * 8 := by
      have : (k : Int) * k ≤ 8 * 8 := Int.mul_le_mul (by omega) (by omega) (by omega) (by decide)
      rw [Int.mul_assoc]; omega
    have k0 : 0 ≤ 7919 * (k : Int) * k := Int.mul_nonneg (Int.mul_nonneg (by decide) (by omega)) (by omega)
    have p1 : powOk (cell.fmod 2147483629 + 7919 * (k : Int) * k + 31) 3 = true := decide_eq_true ⟨by decide, by decide, by omega⟩
    have t0 : 0 ≤ ((cell.fmod 2147483629 + 7919 * (k : Int) * k + 31) ^ 3).fmod 2147483647 := Int.fmod_nonneg_of_pos _ (by decide)
    have t1 : ((cell.fmod 2147483629 + 7919 * (k : Int) * k + 31) ^ 3).fmod 2147483647 < 2147483647 := Int.fmod_lt_of_pos _ (by decide)
    have e3 : (3 : Int).toNat = 3 := rfl
    have e18 : (18 : Int).toNat = 18 := rfl
    by_cases hc : cell < 1000000000000000000
    · refine ⟨0, _, ⟨t0, t1⟩, ?_⟩
      simp [m1, m2, p1, p2, hc, poolT, e3, e18]
    · refine ⟨cell, _, ⟨t0, t1⟩, ?_⟩
      simp [m1, m2, p1, p2, hc, poolT, e3, e18]
  by_cases hk2 : k < ns.length
  · have a : ixD (.scr ns) (.int k) = some (.int ns[k]) := by
      show (L2.atI ns (k : Int)).map D.int = _
      unfold L2.atI
      rw [ixN_lt hk2]
      show (ns[k]?).map D.int = _
      rw [List.getElem?_eq_getElem hk2]; rfl
    obtain ⟨c, s, h1, h2⟩ := main ns[k]
    refine ⟨c, s, h1, ?_⟩
    have hk3 : (k : Int) < (ns.length : Int) := by omega
    unfold F__law_pool c__law_pool
    rw [e_fnOf]
    have st1 : dSet 2 (dC (.int 0)) (ev0 m__law_pool [.d (.scr ns), .d (.int k)] 4) = .ok .nx [.loc (.d (.scr ns)), .loc (.d (.int k)), .loc (.d (.int 0)), .none] := by simp [m__law_pool]
    have st2 : dIte (aB (dBp oLt 1 (frzD (dB1 oLen (pk 0))))) (dSeq (dSet 2 (dIxp 0 (pk 1))) dSkip) dSkip [.loc (.d (.scr ns)), .loc (.d (.int k)), .loc (.d (.int 0)), .none] = .ok .nx [.loc (.d (.scr ns)), .loc (.d (.int k)), .loc (.d (.int ns[k])), .none] := by simp [ls, hk3, a]
    rw [e_dSeq, st1, e_bind_ok]
    simp only
    rw [e_dSeq, st2, e_bind_ok]
    simp only
    rw [h2]; rfl
  · obtain ⟨c, s, h1, h2⟩ := main 0
    refine ⟨c, s, h1, ?_⟩
    have hk3 : ¬ (k : Int) < (ns.length : Int) := by omega
    unfold F__law_pool c__law_pool
    rw [e_fnOf]
    have st1 : dSet 2 (dC (.int 0)) (ev0 m__law_pool [.d (.scr ns), .d (.int k)] 4) = .ok .nx [.loc (.d (.scr ns)), .loc (.d (.int k)), .loc (.d (.int 0)), .none] := by simp [m__law_pool]
    have st2 : dIte (aB (dBp oLt 1 (frzD (dB1 oLen (pk 0))))) (dSeq (dSet 2 (dIxp 0 (pk 1))) dSkip) dSkip [.loc (.d (.scr ns)), .loc (.d (.int k)), .loc (.d (.int 0)), .none] = .ok .nx [.loc (.d (.scr ns)), .loc (.d (.int k)), .loc (.d (.int 0)), .none] := by simp [ls, hk3]
    rw [e_dSeq, st1, e_bind_ok]
    simp only
    rw [e_dSeq, st2, e_bind_ok]
    simp only
    rw [h2]; rfl
end Pn

/-! remainders, groups -/
namespace Mq
theorem rem_form (p q : Rat) : ∃ n : Int, rem p q = mkRat n (p.den * q.den) := by
  refine ⟨p.num * q.den - (q.num * (p / q).floor) * p.den, ?_⟩
  unfold rem
  generalize (p / q).floor = m
  have h1 := p.den_pos
  have h2 := q.den_pos
  have e : q * (m : Rat) = Rat.divInt (q.num * m) q.den := by
    have := Rat.divInt_mul_divInt q.num m (d₁ := q.den) (d₂ := 1)
    rw [Rat.num_divInt_den, Int.mul_one] at this
    have e1 : Rat.divInt m 1 = (m : Rat) := by
      have := Rat.num_divInt_den (m : Rat)
      simpa using this
    rw [e1] at this
    exact this
  rw [e]
  conv => lhs; rw [← Rat.num_divInt_den p]
  rw [Rat.divInt_sub_divInt _ _ (by omega) (by omega), ← Int.natCast_mul, Rat.divInt_ofNat]
theorem rem_den {p q : Rat} : (rem p q).den ≤ p.den * q.den := by
  obtain ⟨n, e⟩ := rem_form p q
  rw [e]
  have h1 := p.den_pos
  have h2 := q.den_pos
  exact (mkRat_le n _ (Nat.pos_iff_ne_zero.mp (Nat.mul_pos h1 h2))).2
/-- a number below a bound -/
theorem sz_below {r q : Rat} {a b : Nat} (h0 : 0 ≤ r) (h : r < q) (hd : r.den < 2 ^ a) (hq : q.num.natAbs < 2 ^ b) : Sz (a + b) r := by
  have d1 := r.den_pos
  have d2 := q.den_pos
  have n0 : 0 ≤ r.num := Rat.num_nonneg.mpr h0
  have l := (Rat.lt_iff _ _).mp h
  have hb : 0 < 2 ^ b := Nat.two_pow_pos b
  have l2 : r.num * 1 ≤ r.num * q.den := Int.mul_le_mul_of_nonneg_left (by omega) n0
  have l3 : r.num.natAbs < (q.num * r.den).natAbs := by omega
  rw [Int.natAbs_mul] at l3
  have l4 := mul_lt hd hq
  refine ⟨?_, Nat.lt_of_lt_of_le hd (Nat.pow_le_pow_right (by decide) (by omega))⟩
  refine Nat.lt_trans l3 ?_
  rw [Nat.mul_comm]; simpa using l4
theorem rem_sz2 {a b : Nat} {p q : Rat} (sp : Sz a p) (sq : Sz b q) (h : 0 < q) : Sz (a + b + b) (rem p q) :=
  sz_below (rem_nonneg p h) (rem_lt p h) (Nat.lt_of_le_of_lt rem_den (mul_lt sp.2 sq.2)) sq.1
theorem rem_uniq {x y q : Rat} {n : Int} (h : 0 < q) (e : x = y + q * n) (h0 : 0 ≤ y) (h1 : y < q) : rem x q = y := by
  have hf : (x / q).floor = n := by
    have a1 : n ≤ (x / q).floor := Rat.le_floor_iff.mpr (by
      rw [← Rat.not_lt, Rat.div_lt_iff h, Rat.not_lt]; grind)
    have a2 : (x / q).floor < n + 1 := Rat.floor_lt_iff.mpr (by rw [Rat.div_lt_iff h, Rat.intCast_add, Rat.intCast_one]; grind)
    omega
  unfold rem
  rw [hf, e]; grind
theorem rem_sub {a b q : Rat} (h : 0 < q) : rem (a - b) q = if 0 ≤ rem a q - rem b q then rem a q - rem b q else rem a q - rem b q + q := by
  have ha : ∀ x : Rat, 0 ≤ rem x q ∧ rem x q < q ∧ ∃ n : Int, x = rem x q + q * n := fun x => ⟨rem_nonneg x h, rem_lt x h, (x / q).floor, by unfold rem; grind⟩
  obtain ⟨a0, a1, n, en⟩ := ha a
  obtain ⟨b0, b1, m, em⟩ := ha b
  generalize rem a q = ra at *
  generalize rem b q = rb at *
  subst en em
  split
  · refine rem_uniq (n := n - m) h ?_ (by assumption) (by grind)
    rw [Rat.intCast_sub]; grind
  · refine rem_uniq (n := n - m - 1) h ?_ (by grind) (by grind)
    rw [Rat.intCast_sub, Rat.intCast_sub]; grind
/-! groups -/
theorem groups_perm {α β : Type} [DecidableEq β] (f : α → β) : ∀ (ps : List β) (rs : List α), ps.Nodup → (∀ r ∈ rs, f r ∈ ps) → (ps.flatMap fun p => rs.filter fun r => decide (f r = p)).Perm rs
  | [], rs, _, h => by
    cases rs with
    | nil => exact .nil
    | cons r rs => exact absurd (h r List.mem_cons_self) List.not_mem_nil
  | p :: ps, rs, nd, h => by
    obtain ⟨n1, n2⟩ := List.nodup_cons.mp nd
    have ih := groups_perm f ps (rs.filter fun r => !decide (f r = p)) n2 fun r hr => by
      obtain ⟨h1, h2⟩ := List.mem_filter.mp hr
      rcases List.mem_cons.mp (h r h1) with e | e
      · simp [e] at h2
      · exact e
    have e : (ps.flatMap fun q => (rs.filter fun r => !decide (f r = p)).filter fun r => decide (f r = q)) = ps.flatMap fun q => rs.filter fun r => decide (f r = q) := by
      rw [List.flatMap_def, List.flatMap_def]
      congr 1
      refine List.map_congr_left fun q hq => ?_
      rw [List.filter_filter]
      refine List.filter_congr fun r _ => ?_
      by_cases z : f r = q
      · have z3 : ¬ q = p := fun z2 => n1 (z2 ▸ hq)
        simp [z, z3]
      · simp [z]
    rw [e] at ih
    rw [List.flatMap_cons]
    exact (List.Perm.append_left _ ih).trans (List.filter_append_perm _ rs)
end Mq

/-! steps of denotations, one by one -/
namespace Dn
open PySem PySem.Spec PyProof.Rows L2
section
variable {α β ζ : Type} {env env1 env2 env3 env4 : Ev} {s1 s2 : DS} {d d1 d2 : DE} {dv : Ev → Rs D} {b : Bool} {bt : Ev → Rs Bool} {i n : Nat} {t u : T} {x y z w : D} {ws : List Nat} {g : D → Ev → Option Ev} {fw : Fw}
theorem seq_nx (h : s1 env = .ok .nx env1) : dSeq s1 s2 env = s2 env1 := by rw [e_dSeq, h, e_bind_ok]
theorem seq_rt (h : s1 env = .ok (.rt t) env1) : dSeq s1 s2 env = .ok (.rt t) env1 := by rw [e_dSeq, h, e_bind_ok]
theorem ite_t (h : bt env = .ok true env1) : dIte bt s1 s2 env = s1 env1 := by rw [e_dIte, h, e_bind_ok, if_pos rfl]
theorem ite_f (h : bt env = .ok false env1) : dIte bt s1 s2 env = s2 env1 := by rw [e_dIte, h, e_bind_ok, if_neg (by decide)]
theorem set_ok (h : d env = .ok t env1) (h2 : putS i t env1 = some env2) : dSet i d env = .ok .nx env2 := by rw [e_dSet, h, e_bind_ok, h2, e_nxO_s]
theorem expr_ok (h : d env = .ok t env1) : dExpr d env = .ok .nx env1 := by rw [e_dExpr, h, e_bind_ok]
theorem ret_ok (h : d env = .ok t env1) : dRet d env = .ok (.rt t) env1 := by rw [e_dRet, h, e_bind_ok]
theorem for_ok {it : Ev → Rs (List D)} {xs : List D} (h : it env = .ok xs env1) : dFor it g s1 env = forL g s1 xs env1 := by rw [e_dFor, h, e_bind_ok]
theorem it_ok {xs : List D} (h : d env = .ok t env1) (hi : itemsD t.frz = some xs) : dIt d env = .ok xs env1 := by rw [e_dIt, h, e_bindD_ok, hi, e_ofL_s]
theorem frz_ok (h : d env = .ok t env1) : frzD d env = .ok t.frz env1 := by rw [e_frzD, h, e_bindD_ok]
theorem cons_ok {ds : Ev → Rs (List D)} {xs : List D} (h : d env = .ok t env1) (h2 : ds env1 = .ok xs env2) : dCons d ds env = .ok (t.frz :: xs) env2 := by rw [e_dCons, h, e_bindD_ok, h2, e_bind_ok]
theorem call_ok {F : Fn} {dvs : List V} {ds : Ev → Rs (List D)} {xs : List D} (h : ds env = .ok xs env1) (h2 : callP F n dvs xs env1 = .ok t env1) : dCallP F n dvs ds env = .ok t env1 := by rw [e_dCallP, h, e_bind_ok, h2]
theorem callP_ok {F : Fn} {dvs : List V} {xs : List D} {bk : List T} (hl : xs.length + dvs.length = n) (h : F ((xs ++ dvs.map vD).map .d) = .ok t bk) : callP F n dvs xs env = .ok t env := by rw [e_callP, if_pos hl, h]
theorem b1_ok {o : D → Option T} (h : dv env = .ok x env1) (h2 : o x = some t) : dB1 o dv env = .ok t env1 := by rw [e_dB1, h, e_bind_ok, h2, e_ofO_s]
theorem bn_ok {o : D → D → Option T} (h : d env = .ok t env1) (h2 : dv env1 = .ok y env2) (h3 : o t.frz y = some u) : dBn o d dv env = .ok u env2 := by rw [e_dBn, h, e_bindD_ok, h2, e_bind_ok, h3, e_ofO_s]
theorem pk_ok (h : treeS (getS env i) = some t) : pk i env = .ok t.frz env := by rw [e_pk, h]
theorem bp_ok {o : D → D → Option T} {t' : T} (h0 : treeS (getS env i) = some t') (h2 : dv env = .ok y env1) (h : treeS (getS env1 i) = some t) (h3 : o t.frz y = some u) : dBp o i dv env = .ok u env1 := by rw [e_dBp, pk_ok h0, e_bind_ok, h2, e_bind_ok, pk_ok h, e_bind_ok, h3, e_ofO_s]
theorem eq_o (h : eqD x y = some b) : oEq x y = some (.d (.bool b)) := by rw [e_oEq, h]; rfl
theorem ne_o (h : eqD x y = some b) : oNe x y = some (.d (.bool (!b))) := by rw [e_oNe, h]; rfl
theorem aB_ok (h : d env = .ok (.d (.bool b)) env1) : aB d env = .ok b env1 := by rw [e_aB, h, e_bind_ok, e_tB]
theorem eq_ev (h1 : d env = .ok t env1) (h2 : dv env1 = .ok w env2) (h : eqD t.frz w = some b) : aB (dBn oEq d dv) env = .ok b env2 := aB_ok (bn_ok h1 h2 (eq_o h))
theorem ne_ev (h1 : d env = .ok t env1) (h2 : dv env1 = .ok w env2) (h : eqD t.frz w = some b) : aB (dBn oNe d dv) env = .ok (!b) env2 := aB_ok (bn_ok h1 h2 (ne_o h))
theorem ixp_ok {t' : T} (h0 : treeS (getS env i) = some t') (h2 : dv env = .ok y env1) (h1 : treeS (getS env1 i) = some t) (h : ixD t.frz y = some z) : dIxp i dv env = .ok (.d z) env1 := by rw [e_dIxp, pk_ok h0, e_bind_ok, h2, e_bind_ok, pk_ok h1, e_bind_ok, h, e_ofD_s]
theorem ix_ok (h0 : d env = .ok t env1) (h2 : dv env1 = .ok y env2) (h : ixD t.frz y = some z) : dIx d dv env = .ok (.d z) env2 := by rw [e_dIx, h0, e_bindD_ok, h2, e_bind_ok, h, e_ofD_s]
theorem lst_ok {ds : Ev → Rs (List D)} {xs : List D} (h : ds env = .ok xs env1) (hl : xs.length ≤ sizeLine) : dLst ds env = .ok (.lst xs) env1 := by rw [e_dLst, h, e_bind_ok, if_pos hl]
theorem tup_ok {ds : Ev → Rs (List D)} {xs : List D} (h : ds env = .ok xs env1) (hl : xs.length ≤ sizeLine) : dTup ds env = .ok (.d (.tup xs)) env1 := by rw [e_dTup, h, e_bind_ok, if_pos hl]
theorem meth_ev {C m : Str} {F : Fn} {ds : Ev → Rs (List D)} {a : D} {xs : List D} (h0 : d env = .ok (.d a) env1) (hs : ds env1 = .ok xs env2) (hi : instOk C m a = true) (hc : callP F n [] (a :: xs) env2 = .ok t env2) : dMethP C m F n [] d ds env = .ok t env2 := by
  unfold dMethP
  rw [h0, e_bindD_ok, e_frz_d, if_pos hi, hs, e_bind_ok, hc]
theorem turn_map {em : Ev → Rs ζ} {a : ζ} (hg : g x env = some env1) (hd : em env1 = .ok a env2) (hc : clrO env2 ws = some env3) : turnE ws g dYes em x env = .ok (some a) env3 := by
  rw [e_turnE, hg]
  dsimp only
  rw [e_dYes, e_bind_ok, if_pos rfl, hd, e_bind_ok, e_clrR, hc]
theorem turn_filter {em : Ev → Rs ζ} {a : ζ} (hg : g x env = some env1) (ht : bt env1 = .ok b env2) (hd : em env2 = .ok a env2) (hc : clrO env2 ws = some env3) : turnE ws g bt em x env = .ok (if b = true then some a else none) env3 := by
  rw [e_turnE, hg]
  dsimp only
  rw [ht, e_bind_ok]
  cases b with
  | true => rw [if_pos rfl, hd, e_bind_ok, e_clrR, hc]; rfl
  | false => rw [if_neg (by decide), e_clrR, hc]; rfl
theorem emD_ok (h : d env = .ok t env1) : emD d env = .ok t.frz env1 := by rw [e_emD, h, e_bindD_ok]
theorem emK_ok {k : Key} (h1 : d1 env = .ok t env1) (h2 : d2 env1 = .ok u env2) (hk : keyD t.frz = some k) : emK d1 d2 env = .ok (k, u.frz) env2 := by
  unfold emK
  rw [h1, e_bindD_ok, h2, e_bindD_ok, hk]
theorem comp_lc {it : Ev → Rs (List D)} {tn : D → Ev → Rs (Option D)} {xs ys : List D} (h1 : it env = .ok xs env1) (hl : xs.length < 1000000) (hw : okW env1 ws = true) (hc : clrO env1 ws = some env2) (hb : compL tn xs env2 = .ok ys env3) (hr : rstO env1 ws env3 = env4) : dLc it ws tn env = .ok (.lst ys) env4 := by
  show dComp 1000000 it ws tn .lst env = _
  rw [e_dComp, h1, e_bind_ok, if_pos ⟨hl, hw⟩, hc]
  dsimp only
  rw [hb, e_bind_ok, hr]
theorem comp_dc {it : Ev → Rs (List D)} {tn : D → Ev → Rs (Option (L2.Key × D))} {xs : List D} {ys : List (L2.Key × D)} (h1 : it env = .ok xs env1) (hl : xs.length < 1000000) (hw : okW env1 ws = true) (hc : clrO env1 ws = some env2) (hb : compL tn xs env2 = .ok ys env3) (hd : dictOf ys = t) (hr : rstO env1 ws env3 = env4) : dDc it ws tn env = .ok t env4 := by
  show dComp 1000000 it ws tn dictOf env = _
  rw [e_dComp, h1, e_bind_ok, if_pos ⟨hl, hw⟩, hc]
  dsimp only
  rw [hb, e_bind_ok, hd, hr]
theorem vals_ok {ks : List Key} {ds : List D} (h : d env = .ok t env1) (e : t.frz = .dict ks ds) : dListVals d env = .ok (.lst ds) env1 := by
  unfold dListVals
  rw [h, e_bindD_ok, e]
theorem mut_ok {o : D → T → Option T} (hl : isLst (getE env i []) = true) (h : d env = .ok t env1) (h2 : (getE env1 i []).bind (o t.frz) = some u) (h3 : setE env1 i [] u = env2) : dMut o i d env = .ok (.d .none) env2 := by
  rw [e_dMut, if_pos hl, h, e_bindD_ok, h2]
  dsimp only
  rw [h3]
theorem fn_rt {m : List Bool} {ts : List T} {bk : List T} (h : s1 (ev0 m ts n) = .ok (.rt t) env1) (hb : backs env1 = bk) : fnOf m n s1 ts = .ok t bk := by rw [e_fnOf, h, e_fin_rt, hb]
theorem add_l {xs ys : List D} (h : xs.length + ys.length ≤ 1000) : oAdd (.list xs) (.list ys) = some (.lst (xs ++ ys)) := by
  show (if xs.length + ys.length ≤ sizeLine then some (T.lst (xs ++ ys)) else none) = _
  rw [if_pos (by rw [e_size]; omega)]
/-! own instances -/
theorem vr {i : Nat} (h : getS env i = .loc (.d x)) : dVar i env = .ok (.d x) env := by rw [e_dVar, h]; simp
theorem vrp {i : Nat} (h : getS env i = .par (.d x)) : dVar i env = .ok (.d x) env := by rw [e_dVar, h]; simp
theorem callP_1 {F : Fn} {a : D} {bk : List T} (h : F [.d a] = .ok t bk) : callP F 1 [] [a] env = .ok t env := callP_ok rfl h
theorem nil_ok : dNil env = .ok [] env := rfl
theorem ar1 {i : Nat} (h : getS env i = .loc (.d x)) : dCons (dVar i) dNil env = .ok [x] env := cons_ok (vr h) rfl
theorem ar2 {i j : Nat} (h : getS env i = .loc (.d x)) (h2 : getS env j = .loc (.d y)) : dCons (dVar i) (dCons (dVar j) dNil) env = .ok [x, y] env := cons_ok (vr h) (ar1 h2)
theorem ar3 {i j k : Nat} (h : getS env i = .loc (.d x)) (h2 : getS env j = .loc (.d y)) (h3 : getS env k = .loc (.d z)) : dCons (dVar i) (dCons (dVar j) (dCons (dVar k) dNil)) env = .ok [x, y, z] env := cons_ok (vr h) (ar2 h2 h3)
theorem fn_nx {m : List Bool} {ts : List T} {bk : List T} (h : s1 (ev0 m ts n) = .ok .nx env1) (hb : backs env1 = bk) : fnOf m n s1 ts = .ok (.d .none) bk := by rw [e_fnOf, h, e_fin_nx, hb]
theorem callO_ok {m : List Bool} {F : Fn} {as : List RA} {ts bk : List T} (hm : maskR as = m) (hn : (owns as).Nodup) (hf : fetch env as = some ts) (hF : F ts = .ok t bk) (hp : putB env as bk = env1) : callO m F [] as env = .ok t env1 := by
  have e : ts ++ (([] : List V).map vD).map T.d = ts := List.append_nil _
  rw [e_callO, if_pos ⟨by simpa using hm, hn⟩, hf]
  dsimp only
  rw [e, hF]
  dsimp only
  rw [hp]
theorem dCallO_ok {m : List Bool} {F : Fn} {ds : Ev → Rs (List RA)} {as : List RA} (h : ds env = .ok as env1) (h2 : callO m F [] as env1 = .ok t env2) : dCallO m F [] ds env = .ok t env2 := by rw [e_dCallO, h, e_bind_ok, h2]
theorem methO_ok {C m : Str} {mk : List Bool} {F : Fn} {ds : Ev → Rs (List RA)} {as : List RA} (h0 : (treeS (getS env i)).map (instOkT C m) = some true) (h : ds env = .ok as env1) (h2 : callO mk F [] (.inr i :: as) env1 = .ok t env2) : dMethO C m mk F [] i ds env = .ok t env2 := by
  unfold dMethO
  rw [if_pos h0, h, e_bind_ok, h2]
theorem propO_ok {C : Str} {F : Fn} (h0 : (treeS (getS env i)).map (instT C) = some true) (h2 : callO [true] F [] [.inr i] env = .ok t env2) : dPropO C F i env = .ok t env2 := by
  unfold dPropO
  rw [if_pos h0, h2]; rfl
theorem lenOO_ok {C : Str} {F : Fn} {n : Nat} (h0 : (treeS (getS env i)).map (instT C) = some true) (h2 : callO [true] F [] [.inr i] env = .ok (.d (.int n)) env2) (hn : n < 1000000) : dLenOO C F i env = .ok (.d (.int n)) env2 := by
  unfold dLenOO
  rw [if_pos h0, h2]
  have e : noX (Rs.ok (T.d (.int (n : Int))) env2) = Rs.ok (T.d (.int n)) env2 := rfl
  rw [e, e_bind_ok]
  unfold tN
  dsimp only
  rw [if_pos (by omega)]
theorem rD_ok {ds : Ev → Rs (List RA)} {as : List RA} (h : d env = .ok t env1) (h2 : ds env1 = .ok as env2) : rD d ds env = .ok (.inl t.frz :: as) env2 := by rw [e_rD, h, e_bindD_ok, h2, e_bind_ok]
theorem rO_ok {ds : Ev → Rs (List RA)} {as : List RA} (h0 : (treeS (getS env i)).isSome = true) (h2 : ds env = .ok as env2) : rO i ds env = .ok (.inr i :: as) env2 := by rw [e_rO, if_pos h0, h2, e_bind_ok]
theorem ixQ_ok {f1 f2 : Ev → Option D} (h1 : f1 env = some x) (h2 : f2 env = some y) (h : ixD x y = some z) : dIxQ f1 f2 env = .ok (.d z) env := by
  unfold dIxQ
  rw [h1, h2]
  dsimp only
  rw [h, e_ofD_s]
theorem pop_ok {pa : Path} {ds : List D} (h : getE env i pa = some (.lst (ds ++ [x]))) (h2 : setE env i pa (.lst ds) = env1) : dPop i pa env = .ok (.d x) env1 := by
  unfold dPop
  rw [h]
  dsimp only
  have e : (ds ++ [x])[(ds ++ [x]).length - 1]? = some x := by simp
  rw [e]
  dsimp only
  rw [List.dropLast_concat, h2]
theorem appQ_ok {pa : Path} {f : Ev → Option D} {ds : List D} (h : f env = some x) (h2 : getE env i pa = some (.lst ds)) (hl : ds.length < 1000000) (h3 : setE env i pa (.lst (ds ++ [x])) = env1) : dAppQ i pa f env = .ok (.d .none) env1 := by
  unfold dAppQ
  rw [h, Option.bind_some, h2, Option.bind_some, e_appT, if_pos hl]
  dsimp only
  rw [h3]
theorem app_ok {ds : List D} {t' : T} (hg : getE env i [] = some t') (ht : isLst (some t') = true) (h : d env = .ok t env1) (h2 : getE env1 i [] = some (.lst ds)) (hl : ds.length < 1000000) (h3 : setE env1 i [] (.lst (ds ++ [t.frz])) = env2) : dMut appT i d env = .ok (.d .none) env2 :=
  mut_ok (by rw [hg]; exact ht) h (by rw [h2, Option.bind_some, e_appT, if_pos hl]) h3
theorem appTmp_ok {ds : List D} (h : d env = .ok (.lst ds) env1) (h2 : d2 env1 = .ok u env2) (hl : ds.length < 1000000) : dAppTmp d d2 env = .ok (.d .none) env2 := by
  unfold dAppTmp
  rw [h, e_bind_ok]
  dsimp only
  rw [h2, e_bindD_ok, if_pos hl]
theorem starK_ok {d3 : DE} {ks : List Key} {ds : List D} {k : Key} {w' : T} (h1 : d1 env = .ok t env1) (e : t.frz = .dict ks ds) (hl : ks.length ≤ 1000) (h2 : d2 env1 = .ok u env2) (h3 : d3 env2 = .ok w' env3) (hk : keyD u.frz = some k) : dStarK d1 d2 d3 env = .ok (.dict (putKs ks k) (putDs ks ds k w'.frz)) env3 := by
  unfold dStarK
  rw [h1, e_bindD_ok, e]
  dsimp only
  rw [if_pos hl, h2, e_bindD_ok, h3, e_bindD_ok, hk]
theorem star_ok {ds : Ev → Rs (List D)} {xs ys : List D} (h : d env = .ok t env1) (e : starD t.frz = some xs) (h2 : ds env1 = .ok ys env2) : dStar d ds env = .ok (xs ++ ys) env2 := by
  unfold dStar
  rw [h, e_bindD_ok, e]
  dsimp only
  rw [h2, e_bind_ok]
theorem mk_ok {C : Str} {F : Fn} {dvs : List V} {ds : Ev → Rs (List D)} {xs : List D} (h : ds env = .ok xs env1) (h2 : callM C F n dvs xs env1 = .ok t env2) : dMk C F n dvs ds env = .ok t env2 := by rw [e_dMk, h, e_bind_ok, h2]
theorem callM_1 {C : Str} {F : Fn} {a : D} (h : F [.inst C [] [], .d a] = .ok (.d .none) [t]) : callM C F 1 [] [a] env = .ok t env := by
  show (match F [.inst C [] [], .d a] with | .ok (.d .none) [t] => _ | .exc c fs _ => _ | _ => _) = _
  rw [h]
theorem tru_ok {w : D} (h : dv env = .ok w env1) (e : truD w = some b) : dTru dv env = .ok b env1 := by rw [e_dTru, h, e_bind_ok, e, e_ofB_s]
theorem not_ok (h : bt env = .ok b env1) : dNot bt env = .ok (!b) env1 := by rw [e_dNot, h, e_bind_ok]
theorem or_f {bt2 : Ev → Rs Bool} (h : bt env = .ok false env1) : dOr bt bt2 env = bt2 env1 := by rw [e_dOr, h, e_bind_ok, if_neg (by decide)]
theorem or_t {bt2 : Ev → Rs Bool} (h : bt env = .ok true env1) : dOr bt bt2 env = .ok true env1 := by rw [e_dOr, h, e_bind_ok, if_pos rfl]
theorem and_t {bt2 : Ev → Rs Bool} (h : bt env = .ok true env1) : dAnd bt bt2 env = bt2 env1 := by rw [e_dAnd, h, e_bind_ok, if_pos rfl]
theorem and_f {bt2 : Ev → Rs Bool} (h : bt env = .ok false env1) : dAnd bt bt2 env = .ok false env1 := by rw [e_dAnd, h, e_bind_ok, if_neg (by decide)]
theorem andV_t (h : d1 env = .ok (.d (.bool true)) env1) : dAndV d1 d2 env = d2 env1 := by rw [e_dAndV, h, e_bind_ok, e_tB, e_bind_ok, if_pos rfl]
theorem eqO_ok {C : Str} {F : Fn} {neg c : Bool} (h1 : d1 env = .ok t env1) (h2 : d2 env1 = .ok u env2) (hi : (instC C t.frz && instC C u.frz) = true) (h : F [.d t.frz, .d u.frz] = .ok (.d (.bool c)) []) : dEqO C F neg d1 d2 env = .ok (.d (.bool (xor neg c))) env2 := by
  unfold dEqO
  rw [h1, e_bindD_ok, h2, e_bindD_ok, if_pos hi]
  have e : callP F 2 [] [t.frz, u.frz] env2 = .ok (.d (.bool c)) env2 := callP_ok rfl h
  have q : callQ F 2 [] [t.frz, u.frz] env2 = .ok (.d (.bool c)) env2 := by unfold callQ; rw [e]
  rw [q, e_bind_ok]; rfl
theorem isO_ok {C : Str} (h : dv env = .ok x env1) (hi : instC C x = true) : dIsO C dv env = .ok (.d (.bool true)) env1 := by
  unfold dIsO
  rw [h, e_bind_ok, if_pos hi]
theorem par3T_ok {d3 : DE} {j l : Nat} {w' : T} (h1 : d1 env = .ok t env1) (h2 : d2 env1 = .ok u env2) (h3 : d3 env2 = .ok w' env3) (hp : ((putS i t env3).bind fun env => (putS j u env).bind fun env => putS l w' env) = some env4) : dPar3T i j l d1 d2 d3 env = .ok .nx env4 := by
  unfold dPar3T
  rw [h1, e_bind_ok, h2, e_bind_ok, h3, e_bind_ok, hp, e_nxO_s]
theorem par2_ok {j : Nat} (h1 : d1 env = .ok t env1) (h2 : d2 env1 = .ok u env2) (hp : ((putS i t env2).bind fun env => putS j u env) = some env3) : dPar2 i j d1 d2 env = .ok .nx env3 := by rw [e_dPar2, h1, e_bind_ok, h2, e_bind_ok, hp, e_nxO_s]
theorem un_ok {o : D → Option T} (h : dv env = .ok x env1) (h2 : o x = some t) : dUn o dv env = .ok t env1 := by rw [e_dUn, h, e_bind_ok, h2, e_ofO_s]
theorem fld_ok {pa : Path} {C f : Str} {u u' : T} (h : d env = .ok t env1) (h2 : getE env1 i pa = some u) (h3 : putFld C f t u = some u') (h4 : setE env1 i pa u' = env2) : dFld i pa C f d env = .ok .nx env2 := by
  rw [e_dFld, h, e_bind_ok, h2, Option.bind_some, h3, Option.map_some, e_nxO_s, h4]
end
end Dn

/-! equal data, dicts, sorted texts -/
namespace Dn
open PySem PySem.Spec PyProof.Rows L2
section
variable {env : Ev} {x y : D} {d d1 d2 : DE}
@[simp] theorem e_emK : emK d1 d2 env = (d1 env).bindD fun x env => (d2 env).bindD fun y env => (match keyD x with
  | some k => Rs.ok (k, y) env
  | none => .stuck) := rfl
@[simp] theorem e_listVals : dListVals d env = (d env).bindD fun x env => (match x with
  | .dict _ ds => Rs.ok (.lst ds) env
  | _ => .stuck) := rfl
@[simp] theorem e_get1 : dGet1 d1 d2 env = (d1 env).bindD fun x env => (match x with
  | .dict ks ds => (d2 env).bindD fun y env => ofD (getE' ks ds y .none) env
  | _ => .stuck) := rfl
theorem var_d {i : Nat} (h : getS env i = .loc (.d x)) : dVar i env = .ok (.d x) env := by rw [e_dVar, h]; simp
theorem putAll_map {α : Type} {h : α → Str} {k : α → D} : ∀ (todo dn : List α), ((dn ++ todo).map h).Nodup → putAll (dn.map fun r => (Sum.inr (h r) : Key)) (dn.map k) (todo.map fun r => ((Sum.inr (h r) : Key), k r)) = ((dn ++ todo).map (fun r => (Sum.inr (h r) : Key)), (dn ++ todo).map k)
  | [], dn, _ => by rw [List.append_nil]; rfl
  | r :: todo, dn, nd => by
    have hn : h r ∉ dn.map h := fun z => by
      rw [List.map_append, List.map_cons] at nd
      exact (List.nodup_append.mp nd).2.2 _ z _ List.mem_cons_self rfl
    have hh := hasK_map (h := h) hn
    have ih := putAll_map (h := h) (k := k) todo (dn ++ [r]) (by rw [List.append_assoc]; exact nd)
    rw [List.append_assoc] at ih
    rw [List.map_cons]
    show putAll (putKs _ _) (putDs _ _ _ _) _ = _
    unfold putKs putDs
    rw [hh]
    rw [List.map_append, List.map_append] at ih
    exact ih
theorem dictOf_map {α : Type} {h : α → Str} {k : α → D} {rs : List α} (nd : (rs.map h).Nodup) : dictOf (rs.map fun r => ((Sum.inr (h r) : Key), k r)) = .dict (rs.map fun r => Sum.inr (h r)) (rs.map k) := by
  have := putAll_map (h := h) (k := k) rs [] nd
  unfold dictOf
  have e : putAll [] [] (rs.map fun r => ((Sum.inr (h r) : Key), k r)) = (rs.map (fun r => (Sum.inr (h r) : Key)), rs.map k) := this
  rw [e]
end
/-- data that == takes -/
def EqOk (n : Nat) (x : D) : Prop := ∃ p, x.py = some p ∧ p.canLay0 = true ∧ p.depth ≤ n
section
variable {n : Nat} {x y : D} {ds : List D}
theorem EqOk.up {m : Nat} (h : EqOk n x) (l : n ≤ m) : EqOk m x := let ⟨p, a, b, c⟩ := h; ⟨p, a, b, Nat.le_trans c l⟩
theorem EqOk.none : EqOk 0 .none := ⟨.none, rfl, by simp [PyData.canLay0], by simp [PyData.depth]⟩
theorem EqOk.int (i : Int) : EqOk 0 (.int i) := ⟨.int i, rfl, by simp [PyData.canLay0], by simp [PyData.depth]⟩
theorem EqOk.bool (i : Bool) : EqOk 0 (.bool i) := ⟨.bool i, rfl, by simp [PyData.canLay0], by simp [PyData.depth]⟩
theorem EqOk.str {z : Str} (h : (PyData.str z).canLay0 = true) : EqOk 0 (.str z) := ⟨.str z, rfl, h, by simp [PyData.depth]⟩
theorem eqOkL : ∀ {ds : List D}, (∀ d ∈ ds, EqOk n d) → ∃ ps, pyL ds = some ps ∧ PyData.canLayAll0 ps = true ∧ PyData.depthAll ps ≤ n
  | [], _ => ⟨[], rfl, by simp [PyData.canLayAll0], by simp [PyData.depthAll]⟩
  | d :: ds, h => by
    obtain ⟨p, a, b, c⟩ := h d List.mem_cons_self
    obtain ⟨ps, a2, b2, c2⟩ := eqOkL fun z hz => h z (List.mem_cons_of_mem _ hz)
    refine ⟨p :: ps, ?_, ?_, ?_⟩
    · unfold pyL; rw [a, a2]
    · simp [PyData.canLayAll0, b, b2]
    · simp [PyData.depthAll]; omega
theorem EqOk.list (h : ∀ d ∈ ds, EqOk n d) : EqOk (n + 1) (.list ds) := by
  obtain ⟨ps, a, b, c⟩ := eqOkL h
  exact ⟨.list ps, by unfold D.py; rw [a], by simp [PyData.canLay0, b], by simp [PyData.depth]; omega⟩
theorem EqOk.tup (h : ∀ d ∈ ds, EqOk n d) : EqOk (n + 1) (.tup ds) := by
  obtain ⟨ps, a, b, c⟩ := eqOkL h
  exact ⟨.tuple ps, by unfold D.py; rw [a], by simp [PyData.canLay0, b], by simp [PyData.depth]; omega⟩
theorem shaped_of {p : PyData} (h : p.canLay0 = true) (hd : p.depth ≤ 64) : SeqAt.shaped p = true := by unfold SeqAt.shaped; rw [h, decide_eq_true hd]; rfl
theorem eqD_refl (h : EqOk n x) (hn : n ≤ 64) : eqD x x = some true := by
  obtain ⟨p, a, b, c⟩ := h
  unfold eqD
  rw [a]
  dsimp only
  rw [shaped_of b (by omega)]
  simp only [Bool.and_self, if_true]
  rw [SeqAt.eqv_refl]
  exact b
theorem eqD_nil (h : EqOk n (.list (x :: ds))) (hn : n ≤ 64) : eqD (.list (x :: ds)) (.list []) = some false := by
  obtain ⟨p, a, b, c⟩ := h
  unfold eqD
  rw [a]
  have e : (D.list []).py = some (.list []) := rfl
  rw [e]
  dsimp only
  rw [shaped_of b (by omega), shaped_of (p := .list []) (by simp [PyData.canLay0, PyData.canLayAll0]) (by simp [PyData.depth, PyData.depthAll])]
  simp only [Bool.and_self, if_true]
  unfold D.py at a
  unfold pyL at a
  cases q : x.py with
  | none => rw [q] at a; cases a
  | some p1 =>
    cases q2 : pyL ds with
    | none => rw [q, q2] at a; cases a
    | some ps => rw [q, q2] at a; cases a; simp [PyData.eqv, PyData.eqvAll]
end
end Dn
namespace Pn
open PySem Dn Cd Mq
theorem eqD_rat2 (p q : Rat) : eqD (ratD p) (ratD q) = some (decide (p = q)) := by
  unfold ratD; rw [e_eqD_t2]
  congr 1
  rw [Bool.eq_iff_iff]
  simp only [Bool.and_eq_true, decide_eq_true_eq]
  exact ⟨fun ⟨a, b⟩ => Rat.ext a (by omega), fun e => by subst e; exact ⟨rfl, rfl⟩⟩
theorem eqD_none_rat (q : Rat) : eqD .none (ratD q) = some false := by
  simp [ratD, eqD, D.py, pyL, SeqAt.shaped, PyData.canLay0, PyData.canLayAll0, PyData.depth, PyData.depthAll, PyData.eqv]
theorem eqOk_rat (q : Rat) : EqOk 1 (ratD q) := EqOk.tup fun d hd => by
  simp only [List.mem_cons, List.not_mem_nil, or_false] at hd
  rcases hd with rfl | rfl
  · exact .int _
  · exact .int _
theorem sorted_strs {xs : List Str} (hl : xs.length < 64) : oSorted (.list (xs.map .str)) = some (.lst ((srtS xs).map .str)) := by
  cases xs with
  | nil => rfl
  | cons x xs =>
    have e : ∀ ys : List Str, strsD (ys.map D.str) = some ys := by
      intro ys
      induction ys with
      | nil => rfl
      | cons y ys ih => show (strsD (ys.map D.str)).map _ = _; rw [ih]; rfl
    show (match strsD ((x :: xs).map D.str) with | some xs => _ | none => _) = _
    rw [e]
    dsimp only
    rw [if_pos hl]
end Pn

/-! changed races -/
namespace Mq
theorem rem_small' {q L : Rat} (h0 : 0 ≤ q) (h1 : q < L) : rem q L = q := rem_uniq (n := 0) (rle_lt h0 h1) (by rw [Rat.intCast_zero, Rat.mul_zero, Rat.add_zero]) h0 h1
theorem rem_rem (p : Rat) {L : Rat} (h : 0 < L) : rem (rem p L) L = rem p L := rem_small' (rem_nonneg p h) (rem_lt p h)
end Mq
namespace Pn
open PySem Dn Cd Mq
def nrmP (p : Pc) : Pc := ⟨ratD p.t, p.t, ratD p.s, p.s⟩
def nrm (L : Rat) (r : Rn) : Rn := ⟨ratD (rem r.t L), rem r.t L, r.ps.map nrmP⟩
def wth (L : Rat) (qs : List Pc) (r : Rn) : Rn := ⟨ratD (rem r.t L), rem r.t L, qs⟩
def withR (L : Rat) (n : Str) (qs : List Pc) (rs : List NR) : List NR := rs.map fun r => (r.1, if r.1 = n then wth L qs r.2 else nrm L r.2)
def chgP (t v : Rat) (ps : List Pc) : List Pc := (ps.filter fun p => decide (p.t < t)).map nrmP ++ [⟨ratD t, t, ratD v, v⟩]
/-- the race behind r.changed(n, t, v) -/
def chgR (L : Rat) (r : NR) (t v : Rat) (rs : List NR) : List NR := withR L r.1 (chgP t v r.2.ps) rs
section
variable {k : Nat} {L t v : Rat} {rs : List NR} {r : NR} {x y : D}
theorem nm_inj : ∀ {rs : List NR} {a b : NR}, (rs.map (·.1)).Nodup → a ∈ rs → b ∈ rs → a.1 = b.1 → a = b
  | [], _, _, _, h, _, _ => by cases h
  | r :: rs, a, b, nd, ha, hb, e => by
    obtain ⟨n1, n2⟩ := List.nodup_cons.mp (show (r.1 :: rs.map (·.1)).Nodup from nd)
    rcases List.mem_cons.mp ha with e1 | h1
    · rcases List.mem_cons.mp hb with e2 | h2
      · rw [e1, e2]
      · exact absurd (List.mem_map_of_mem (f := fun z : NR => z.1) h2) (by rw [← e, e1]; exact n1)
    · rcases List.mem_cons.mp hb with e2 | h2
      · exact absurd (List.mem_map_of_mem (f := fun z : NR => z.1) h1) (by rw [e, e2]; exact n1)
      · exact nm_inj n2 h1 h2 e
theorem nrmP_d (p : Pc) : (nrmP p).d = rowD p := rfl
theorem nrm_d (r : Rn) : (nrm L r).d = runD L r := by
  show D.tup [ratD (rem r.t L), .list ((r.ps.map nrmP).map Pc.d)] = _
  rw [List.map_map]; rfl
theorem nrm_run (hL : 0 < L) (r : Rn) : runD L (nrm L r) = runD L r := by
  show D.tup [ratD (rem (rem r.t L) L), .list ((r.ps.map nrmP).map rowD)] = _
  rw [rem_rem _ hL, List.map_map]; rfl
theorem withR_nm {n : Str} {qs : List Pc} : (withR L n qs rs).map (·.1) = rs.map (·.1) := by unfold withR; rw [List.map_map]; rfl
theorem repD_map {α : Type} {h : α → Str} {kf : α → D} {d : D} {n : Str} : ∀ rs : List α, repD (rs.map fun r => (Sum.inr (h r) : L2.Key)) (rs.map kf) (.inr n) d = rs.map fun r => if h r = n then d else kf r
  | [] => rfl
  | r :: rs => by
    rw [List.map_cons, List.map_cons, List.map_cons]
    unfold repD
    rw [repD_map rs]
    congr 1
    by_cases e : h r = n
    · rw [if_pos e, if_pos (by rw [e])]
    · rw [if_neg e, if_neg (fun z => e (Sum.inr.inj z))]
theorem put_has {α : Type} {h : α → Str} {kf : α → D} {d : D} {n : Str} {rs : List α} (hm : n ∈ rs.map h) :
    putKs (rs.map fun r => (Sum.inr (h r) : L2.Key)) (.inr n) = (rs.map fun r => (Sum.inr (h r) : L2.Key)) ∧ putDs (rs.map fun r => (Sum.inr (h r) : L2.Key)) (rs.map kf) (.inr n) d = rs.map fun r => if h r = n then d else kf r := by
  have hk : hasK (rs.map fun r => (Sum.inr (h r) : L2.Key)) (.inr n) = true := by
    obtain ⟨r, hr, e⟩ := List.mem_map.mp hm
    unfold hasK
    rw [List.any_map, List.any_eq_true]
    exact ⟨r, hr, by simp [e]⟩
  refine ⟨by unfold putKs; rw [hk]; rfl, ?_⟩
  unfold putDs
  rw [if_pos hk, repD_map]
theorem withR_keys {n : Str} {qs : List Pc} : keysR (withR L n qs rs) = keysR rs := by
  unfold keysR withR
  rw [List.map_map]; rfl
theorem withR_d {n : Str} {qs : List Pc} : ((withR L n qs rs).map fun r => r.2.d) = rs.map fun r => if r.1 = n then D.tup [ratD (rem r.2.t L), .list (qs.map Pc.d)] else runD L r.2 := by
  unfold withR
  rw [List.map_map]
  refine List.map_congr_left fun r _ => ?_
  show (if r.1 = n then wth L qs r.2 else nrm L r.2).d = _
  by_cases e : r.1 = n
  · rw [if_pos e, if_pos e]; rfl
  · rw [if_neg e, if_neg e]; exact nrm_d _
theorem with_pieces_ok {qs : List Pc} (h : RsOk k rs) (hm : r ∈ rs) (hL : 0 < L) (sL : Sz k L) (hk : k ≤ 500) (h2 : RsOk k (withR L r.1 qs rs)) : F_Race_with_pieces [.d (raceD L rs), .d (.str r.1), .d (.list (qs.map Pc.d))] = .ok (raceT L (withR L r.1 qs rs)) [] := by
  have ri := race_init (k := k) (x := ratD L) (L := L) hk (NumD.rat L) sL hL h2
  obtain ⟨p1, p2⟩ := put_has (h := fun r : NR => r.1) (kf := fun r : NR => runD L r.2) (d := D.tup [ratD (rem r.2.t L), .list (qs.map Pc.d)]) (n := r.1) (rs := rs) (List.mem_map_of_mem hm)
  have e1 : inD (withR L r.1 qs rs) = .dict (putKs (keysR rs) (.inr r.1)) (putDs (keysR rs) (runsK L rs) (.inr r.1) (D.tup [ratD (rem r.2.t L), .list (qs.map Pc.d)])) := by
    show D.dict (keysR (withR L r.1 qs rs)) ((withR L r.1 qs rs).map fun r => r.2.d) = _
    rw [withR_keys, withR_d]
    have a1 : putKs (keysR rs) (.inr r.1) = keysR rs := p1
    have a2 : putDs (keysR rs) (runsK L rs) (.inr r.1) (D.tup [ratD (rem r.2.t L), .list (qs.map Pc.d)]) = _ := p2
    rw [a1, a2]
    congr 1
    refine List.map_congr_left fun r' hr' => ?_
    by_cases e : r'.1 = r.1
    · rw [nm_inj h.nd hr' hm e]
    · rw [if_neg e, if_neg e]
  rw [e1] at ri
  have few := h.few
  have lk : (keysR rs).length ≤ 1000 := by unfold keysR; rw [List.length_map]; omega
  have P : dPl 0 [("Race", "own_runners")] [.loc (.d (raceD L rs)), .loc (.d (.str r.1)), .loc (.d (.list (qs.map Pc.d)))] = .ok (.d (runsD L rs)) [.loc (.d (raceD L rs)), .loc (.d (.str r.1)), .loc (.d (.list (qs.map Pc.d)))] := by simp [raceD]
  have S := meth_ev (C := "Race") (m := "start") (d := dVar 0) (ds := dCons (dVar 1) dNil) (env := [.loc (.d (raceD L rs)), .loc (.d (.str r.1)), .loc (.d (.list (qs.map Pc.d)))]) rfl rfl (instOk_race "start" (by decide +kernel)) (callP_2 (start_ok (L := L) h hm))
  have Lp := prop_len (L := L) (rs := rs) (env := [.loc (.d (raceD L rs)), .loc (.d (.str r.1)), .loc (.d (.list (qs.map Pc.d)))]) (d := dVar 0) rfl
  have V2 : dCons (dVar 2) dNil [.loc (.d (raceD L rs)), .loc (.d (.str r.1)), .loc (.d (.list (qs.map Pc.d)))] = .ok [.list (qs.map Pc.d)] [.loc (.d (raceD L rs)), .loc (.d (.str r.1)), .loc (.d (.list (qs.map Pc.d)))] := rfl
  have V1 : dVar 1 [.loc (.d (raceD L rs)), .loc (.d (.str r.1)), .loc (.d (.list (qs.map Pc.d)))] = .ok (.d (.str r.1)) [.loc (.d (raceD L rs)), .loc (.d (.str r.1)), .loc (.d (.list (qs.map Pc.d)))] := rfl
  have eR : runsD L rs = .dict (keysR rs) (runsK L rs) := rfl
  have K := starK_ok P (by rw [e_frz_d, eR]) lk V1 (tup_ok (cons_ok S V2) (by show 2 ≤ sizeLine; decide)) (e_keyD_s (z := r.1))
  have C := callM_2 (env := [.loc (.d (raceD L rs)), .loc (.d (.str r.1)), .loc (.d (.list (qs.map Pc.d)))]) ri
  have A := mk_ok (C := "Race") (F := F_Race___init__) (n := 2) (dvs := []) (cons_ok Lp (cons_ok K rfl)) C
  unfold F_Race_with_pieces c_Race_with_pieces
  exact fn_rt (seq_rt (ret_ok A)) rfl
/-- pieces in order -/
theorem PcsOk.pw {ps : List Pc} (h : PcsOk k ps) : (ps.map (·.t)).Pairwise (· < ·) := by
  have := h.q.lt
  unfold pcs at this
  rw [List.map_map] at this
  exact this
theorem PcsOk.of_pw {ps : List Pc} (ok : ∀ p ∈ ps, p.Ok k) (ne : ps ≠ []) (few : ps.length ≤ 20) (h0 : (ps[0]?).map (·.t) = some 0) (pw : (ps.map (·.t)).Pairwise (· < ·)) (nn : ∀ p ∈ ps, 0 ≤ p.t) : PcsOk k ps where
  ok := ok
  ne := ne
  few := few
  h0 := h0
  inc := fun i p q e1 e2 => by
    obtain ⟨l1, g1⟩ := List.getElem?_eq_some_iff.mp e1
    obtain ⟨l2, g2⟩ := List.getElem?_eq_some_iff.mp e2
    have := List.pairwise_iff_getElem.mp pw i (i + 1) (by rw [List.length_map]; omega) (by rw [List.length_map]; omega) (Nat.lt_succ_self i)
    rw [List.getElem_map, List.getElem_map, g1, g2] at this
    exact this
  nn := nn
theorem nrmP_ok {p : Pc} (h : p.Ok k) : (nrmP p).Ok k := ⟨NumD.rat _, NumD.rat _, h.st, h.ss⟩
theorem nrm_pcs {ps : List Pc} (h : PcsOk k ps) : PcsOk k (ps.map nrmP) := by
  refine PcsOk.of_pw (fun p hp => ?_) (fun z => h.ne (List.map_eq_nil_iff.mp z)) (by rw [List.length_map]; exact h.few) ?_ ?_ fun p hp => ?_
  · obtain ⟨q, hq, rfl⟩ := List.mem_map.mp hp; exact nrmP_ok (h.ok q hq)
  · rw [List.getElem?_map]
    have := h.h0
    cases e : ps[0]? with
    | none => rw [e] at this; cases this
    | some p => rw [e] at this; exact this
  · have := h.pw
    rw [List.map_map]; exact this
  · obtain ⟨q, hq, rfl⟩ := List.mem_map.mp hp; exact h.nn q hq
theorem chgP_ok {ps : List Pc} (h : PcsOk k ps) (st : Sz k t) (sv : Sz k v) (ht : 0 ≤ t) (hl : ps.length < 20) : PcsOk k (chgP t v ps) := by
  have fl := List.length_filter_le (fun p : Pc => decide (p.t < t)) ps
  have pw := h.pw
  refine PcsOk.of_pw (fun p hp => ?_) (by unfold chgP; simp) ?_ ?_ ?_ fun p hp => ?_
  · rcases List.mem_append.mp hp with z | z
    · obtain ⟨q, hq, rfl⟩ := List.mem_map.mp z
      exact nrmP_ok (h.ok q (List.mem_filter.mp hq).1)
    · rw [List.mem_singleton.mp z]; exact ⟨NumD.rat _, NumD.rat _, st, sv⟩
  · unfold chgP; rw [List.length_append, List.length_map]; show _ + 1 ≤ 20; omega
  · obtain ⟨p0, ps', rfl⟩ : ∃ p0 ps', ps = p0 :: ps' := by
      cases ps with
      | nil => exact absurd rfl h.ne
      | cons a b => exact ⟨a, b, rfl⟩
    have t0 : p0.t = 0 := by simpa using h.h0
    by_cases z : 0 < t
    · unfold chgP
      rw [List.filter_cons_of_pos (by rw [t0]; exact decide_eq_true z)]
      show some p0.t = some 0
      rw [t0]
    · have e0 : t = 0 := by
        rcases Rat.le_iff_lt_or_eq.mp ht with w | w
        · exact absurd w z
        · exact w.symm
      have e1 : (p0 :: ps').filter (fun p => decide (p.t < t)) = [] := List.filter_eq_nil_iff.mpr fun p hp => by
        have := h.nn p hp
        rw [e0]
        simpa using Rat.not_lt.mpr this
      unfold chgP
      rw [e1]
      show some t = some 0
      rw [e0]
  · unfold chgP
    rw [List.map_append, List.map_map, List.pairwise_append]
    refine ⟨?_, by simp, fun a ha b hb => ?_⟩
    · exact pw.sublist (List.Sublist.map _ List.filter_sublist)
    · obtain ⟨q, hq, rfl⟩ := List.mem_map.mp ha
      have hb : b = t := by simpa using hb
      rw [hb]
      exact of_decide_eq_true (List.mem_filter.mp hq).2
  · rcases List.mem_append.mp hp with z | z
    · obtain ⟨q, hq, rfl⟩ := List.mem_map.mp z
      exact h.nn q (List.mem_filter.mp hq).1
    · rw [List.mem_singleton.mp z]; exact ht
/-- a race of a session, behind i steps -/
structure EOk (L : Rat) (i : Nat) (rs : List NR) : Prop where
  h : RsOk 100 rs
  m : ∀ r ∈ rs, 0 ≤ r.2.t ∧ r.2.t < L ∧ r.2.ps.length ≤ 3 + i
  so : ∀ r ∈ rs, (PyData.str r.1).canLay0 = true
theorem chgR_ok {i : Nat} (h : EOk L i rs) (hm : r ∈ rs) (hL : 0 < L) (hi : i ≤ 8) (st : Sz 100 t) (sv : Sz 100 v) (ht : 0 ≤ t) : EOk L (i + 1) (chgR L r t v rs) := by
  have nm : (chgR L r t v rs).map (·.1) = rs.map (·.1) := withR_nm
  have par : ∀ q ∈ chgR L r t v rs, ∃ q0 ∈ rs, q.1 = q0.1 ∧ (q.2 = wth L (chgP t v r.2.ps) q0.2 ∨ q.2 = nrm L q0.2) := fun q hq => by
    obtain ⟨q0, h0, rfl⟩ := List.mem_map.mp hq
    refine ⟨q0, h0, rfl, ?_⟩
    by_cases e : q0.1 = r.1
    · exact .inl (if_pos e)
    · exact .inr (if_neg e)
  have rt : ∀ q0 ∈ rs, rem q0.2.t L = q0.2.t := fun q0 h0 => rem_small' (h.m q0 h0).1 (h.m q0 h0).2.1
  have cl := chgP_ok (h.h.ok r hm).ok st sv ht (by have := (h.m r hm).2.2; omega)
  have fl := List.length_filter_le (fun p : Pc => decide (p.t < t)) r.2.ps
  have rl := (h.m r hm).2.2
  refine ⟨⟨fun q hq => ?_, fun q hq => ?_, fun z => h.h.ne (List.map_eq_nil_iff.mp z), by unfold chgR withR; rw [List.length_map]; exact h.h.few, nm ▸ h.h.srt, nm ▸ h.h.nd⟩, fun q hq => ?_, fun q hq => ?_⟩
  · obtain ⟨q0, h0, e, _⟩ := par q hq
    rw [e]; exact h.h.nm q0 h0
  · obtain ⟨q0, h0, e, e2 | e2⟩ := par q hq
    · rw [e2]; exact ⟨NumD.rat _, by show Sz 100 (rem q0.2.t L); rw [rt q0 h0]; exact (h.h.ok q0 h0).st, cl⟩
    · rw [e2]; exact ⟨NumD.rat _, by show Sz 100 (rem q0.2.t L); rw [rt q0 h0]; exact (h.h.ok q0 h0).st, nrm_pcs (h.h.ok q0 h0).ok⟩
  · obtain ⟨q0, h0, e, e2 | e2⟩ := par q hq
    · rw [e2]
      refine ⟨rem_nonneg _ hL, rem_lt _ hL, ?_⟩
      show (chgP t v r.2.ps).length ≤ _
      unfold chgP
      rw [List.length_append, List.length_map]
      show _ + 1 ≤ _; omega
    · rw [e2]
      refine ⟨rem_nonneg _ hL, rem_lt _ hL, ?_⟩
      show (q0.2.ps.map nrmP).length ≤ _
      rw [List.length_map]
      have := (h.m q0 h0).2.2; omega
  · obtain ⟨q0, h0, e, _⟩ := par q hq
    rw [e]; exact h.so q0 h0
theorem changed_ok {i : Nat} (h : EOk L i rs) (hm : r ∈ rs) (hL : 0 < L) (sL : Sz 100 L) (hi : i ≤ 8) (hx : NumD x t) (st : Sz 100 t) (ht : 0 ≤ t) (hy : NumD y v) (sv : Sz 100 v) : F_Race_changed [.d (raceD L rs), .d (.str r.1), .d x, .d y] = .ok (raceT L (chgR L r t v rs)) [] := by
  have tt := as_time_ok hx st (by decide) ht
  have rv := as_ratio_num hy
  have ok := (h.h.ok r hm).ok
  have h2 := (chgR_ok h hm hL hi st sv ht).h
  have wp := with_pieces_ok (qs := chgP t v r.2.ps) h.h hm hL sL (by decide) h2
  have pl := ok.few
  have c : ∀ v0 v1 v2 v3 v4 v6, compL (turnD [7] (gNm 7) (aB (dBn oLt (dCallP F_compare 2 [] (dCons (dIxp 7 (frzD (dC (.int 0)))) (dCons (dVar 5) dNil))) (frzD (dC (.int 0))))) (dVar 7)) (r.2.ps.map rowD) [v0, v1, v2, v3, v4, .loc (.d (ratD t)), v6, .none] =
      .ok ((r.2.ps.filter fun p => decide (p.t < t)).map rowD) [v0, v1, v2, v3, v4, .loc (.d (ratD t)), v6, .none] := fun v0 v1 v2 v3 v4 v6 =>
    compL_filter fun p hp => turn_filter rfl (aB_ok (by
      have cp := compare_ok (NumD.rat p.t) (NumD.rat t) (ok.ok p hp).st st (by decide)
      have e : decide (p.t < t) = decide (cmpQ p.t t < 0) := by rw [Bool.eq_iff_iff]; simp only [decide_eq_true_eq]; exact (cmpQ_lt_iff _ _).symm
      rw [e]
      exact bn_ok (call_ok (cons_ok (ixp_ok (t := .d (rowD p)) rfl rfl rfl e_at_0) (cons_ok (t := .d (ratD t)) rfl rfl)) (callP_2 cp)) rfl e_lt_i)) (emD_ok (t := .d (rowD p)) rfl) rfl
  have e2 : (r.2.ps.filter fun p => decide (p.t < t)).map rowD ++ [D.tup [ratD t, ratD v]] = (chgP t v r.2.ps).map Pc.d := by
    unfold chgP
    rw [List.map_append, List.map_map]; rfl
  have fl := List.length_filter_le (fun p : Pc => decide (p.t < t)) r.2.ps
  have el : ((r.2.ps.filter fun p => decide (p.t < t)).map rowD).length ≤ 20 := by rw [List.length_map]; omega
  have pl2 : (r.2.ps.map rowD).length < 1000000 := by rw [List.length_map]; omega
  unfold F_Race_changed c_Race_changed
  have M1 := meth_ev (C := "Race") (m := "pieces") (d := dVar 0) (ds := dCons (dVar 1) dNil) (env := [.loc (.d (raceD L rs)), .loc (.d (.str r.1)), .loc (.d x), .loc (.d y), .none, .none, .none, .none]) rfl rfl (instOk_race "pieces" (by decide +kernel)) (callP_2 (pieces_ok (L := L) h.h hm))
  have wp' : F_Race_with_pieces [.d (raceD L rs), .d (.str r.1), .d (.list ((r.2.ps.filter fun p => decide (p.t < t)).map rowD ++ [D.tup [ratD t, ratD v]]))] = .ok (raceT L (chgR L r t v rs)) [] := by rw [e2]; exact wp
  have M2 := fun v6 => meth_ev (C := "Race") (m := "with_pieces") (d := dVar 0) (ds := dCons (dVar 1) (dCons (dLst (dStar (dVar 6) (dCons (dTup (dCons (dVar 5) (dCons (dCallP F_as_ratio 1 [] (dCons (dVar 3) (dNil))) (dNil)))) (dNil)))) (dNil))) (env := [.loc (.d (raceD L rs)), .loc (.d (.str r.1)), .loc (.d x), .loc (.d y), .loc (.d (.list (r.2.ps.map rowD))), .loc (.d (ratD t)), .loc (.lst ((r.2.ps.filter fun p => decide (p.t < t)).map rowD)), v6])
    (env1 := [.loc (.d (raceD L rs)), .loc (.d (.str r.1)), .loc (.d x), .loc (.d y), .loc (.d (.list (r.2.ps.map rowD))), .loc (.d (ratD t)), .loc (.lst ((r.2.ps.filter fun p => decide (p.t < t)).map rowD)), v6])
    (env2 := [.loc (.d (raceD L rs)), .loc (.d (.str r.1)), .loc (.d x), .loc (.d y), .loc (.d (.list (r.2.ps.map rowD))), .loc (.d (ratD t)), .loc (.d (.list ((r.2.ps.filter fun p => decide (p.t < t)).map rowD))), v6])
    (xs := [.str r.1, .list ((r.2.ps.filter fun p => decide (p.t < t)).map rowD ++ [D.tup [ratD t, ratD v]])]) rfl (by
      have A : dVar 6 [.loc (.d (raceD L rs)), .loc (.d (.str r.1)), .loc (.d x), .loc (.d y), .loc (.d (.list (r.2.ps.map rowD))), .loc (.d (ratD t)), .loc (.lst ((r.2.ps.filter fun p => decide (p.t < t)).map rowD)), v6] = .ok (.d (.list ((r.2.ps.filter fun p => decide (p.t < t)).map rowD))) [.loc (.d (raceD L rs)), .loc (.d (.str r.1)), .loc (.d x), .loc (.d y), .loc (.d (.list (r.2.ps.map rowD))), .loc (.d (ratD t)), .loc (.d (.list ((r.2.ps.filter fun p => decide (p.t < t)).map rowD))), v6] := rfl
      have B : dCons (dTup (dCons (dVar 5) (dCons (dCallP F_as_ratio 1 [] (dCons (dVar 3) (dNil))) (dNil)))) (dNil) [.loc (.d (raceD L rs)), .loc (.d (.str r.1)), .loc (.d x), .loc (.d y), .loc (.d (.list (r.2.ps.map rowD))), .loc (.d (ratD t)), .loc (.d (.list ((r.2.ps.filter fun p => decide (p.t < t)).map rowD))), v6] = .ok [D.tup [ratD t, ratD v]] [.loc (.d (raceD L rs)), .loc (.d (.str r.1)), .loc (.d x), .loc (.d y), .loc (.d (.list (r.2.ps.map rowD))), .loc (.d (ratD t)), .loc (.d (.list ((r.2.ps.filter fun p => decide (p.t < t)).map rowD))), v6] :=
        cons_ok (t := .d (.tup [ratD t, ratD v])) (tup_ok (cons_ok (vr rfl) (cons_ok (t := .d (ratD v)) (call_ok (ar1 rfl) (callP_1 rv)) nil_ok)) (by show 2 ≤ sizeLine; decide)) nil_ok
      have SX := star_ok A rfl B
      have sl : ((r.2.ps.filter fun p => decide (p.t < t)).map rowD ++ [D.tup [ratD t, ratD v]]).length ≤ sizeLine := by simp only [List.length_append, List.length_singleton, e_size] at *; omega
      exact cons_ok (vr rfl) (cons_ok (lst_ok SX sl) nil_ok)) (instOk_race "with_pieces" (by decide +kernel)) (callP_3 wp')
  have Q1 : dSet 4 (dMethP "Race" "pieces" F_Race_pieces 2 [] (dVar 0) (dCons (dVar 1) (dNil))) [.loc (.d (raceD L rs)), .loc (.d (.str r.1)), .loc (.d x), .loc (.d y), .none, .none, .none, .none] = .ok .nx [.loc (.d (raceD L rs)), .loc (.d (.str r.1)), .loc (.d x), .loc (.d y), .loc (.lst (r.2.ps.map rowD)), .none, .none, .none] := set_ok M1 rfl
  have Q2 : dSet 5 (dCallP F_as_time 1 [] (dCons (dVar 2) (dNil))) [.loc (.d (raceD L rs)), .loc (.d (.str r.1)), .loc (.d x), .loc (.d y), .loc (.lst (r.2.ps.map rowD)), .none, .none, .none] = .ok .nx [.loc (.d (raceD L rs)), .loc (.d (.str r.1)), .loc (.d x), .loc (.d y), .loc (.lst (r.2.ps.map rowD)), .loc (.d (ratD t)), .none, .none] := set_ok (call_ok (ar1 rfl) (callP_1 tt)) rfl
  have Q3 : dLc (dIt (dVar 4)) [7] (turnD [7] (gNm 7) (aB (dBn oLt (dCallP F_compare 2 [] (dCons (dIxp 7 (frzD (dC (.int 0)))) (dCons (dVar 5) (dNil)))) (frzD (dC (.int 0))))) (dVar 7)) [.loc (.d (raceD L rs)), .loc (.d (.str r.1)), .loc (.d x), .loc (.d y), .loc (.lst (r.2.ps.map rowD)), .loc (.d (ratD t)), .none, .none] = .ok (.lst ((r.2.ps.filter fun p => decide (p.t < t)).map rowD)) [.loc (.d (raceD L rs)), .loc (.d (.str r.1)), .loc (.d x), .loc (.d y), .loc (.d (.list (r.2.ps.map rowD))), .loc (.d (ratD t)), .none, .none] :=
    comp_lc (env1 := [.loc (.d (raceD L rs)), .loc (.d (.str r.1)), .loc (.d x), .loc (.d y), .loc (.d (.list (r.2.ps.map rowD))), .loc (.d (ratD t)), .none, .none]) (it_ok (t := .d (.list (r.2.ps.map rowD))) rfl rfl) pl2 rfl rfl (c _ _ _ _ _ _) rfl
  exact fn_rt ((seq_nx Q1).trans ((seq_nx Q2).trans ((seq_nx (set_ok Q3 rfl)).trans (seq_rt (ret_ok (M2 .none)))))) rfl
end
end Pn

/-! sessions -/
namespace Pn
open PySem Dn Cd Mq
@[simp] theorem s_rc : (("own_races" : Str) = "own_clocks") = False := eq_false (by decide +kernel)
@[simp] theorem s_rs : (("own_races" : Str) = "own_steps") = False := eq_false (by decide +kernel)
@[simp] theorem s_cr : (("own_clocks" : Str) = "own_races") = False := eq_false (by decide +kernel)
@[simp] theorem s_cs : (("own_clocks" : Str) = "own_steps") = False := eq_false (by decide +kernel)
@[simp] theorem s_sr : (("own_steps" : Str) = "own_races") = False := eq_false (by decide +kernel)
@[simp] theorem s_sc : (("own_steps" : Str) = "own_clocks") = False := eq_false (by decide +kernel)
def sessT (R C S : List D) : T := .inst "Session" ["own_races", "own_clocks", "own_steps"] [.lst R, .lst C, .lst S]
section
variable {R C S R' : List D} {r c s x : D} {env : Ev} {i : Nat} {t u : T} {pa : Path}
theorem getE_of (h : treeS (getS env i) = some t) : getE env i pa = getP t pa := by rw [e_getE, h]; rfl
theorem setE_of (h : treeS (getS env i) = some t) : setE env i pa u = setS env i (reS (getS env i) (setP t pa u)) := by rw [e_setE, h]
theorem gp_r : getP (sessT R C S) [("Session", "own_races")] = some (.lst R) := by simp [sessT]
theorem gp_c : getP (sessT R C S) [("Session", "own_clocks")] = some (.lst C) := by simp [sessT]
theorem gp_s : getP (sessT R C S) [("Session", "own_steps")] = some (.lst S) := by simp [sessT]
theorem sp_r : setP (sessT R C S) [("Session", "own_races")] (.lst R') = sessT R' C S := by simp [sessT]
theorem sp_c : setP (sessT R C S) [("Session", "own_clocks")] (.lst R') = sessT R R' S := by simp [sessT]
theorem sp_s : setP (sessT R C S) [("Session", "own_steps")] (.lst R') = sessT R C R' := by simp [sessT]
theorem sess_init : F_Session___init__ [.inst "Session" [] [], .d r] = .ok (.d .none) [sessT [r] [.tup [.int 0, .int 1]] []] := by
  simp [F_Session___init__, m_Session___init__, c_Session___init__, sessT]
theorem last_ix : ixD (.list (C ++ [c])) (.int (-1)) = some c := L2.atI_last _ _
theorem clock_ok : F_Session_clock [sessT R (C ++ [c]) S] = .ok (.d c) [sessT R (C ++ [c]) S] := by
  unfold F_Session_clock c_Session_clock
  exact fn_rt (env1 := [.par (sessT R (C ++ [c]) S)]) (seq_rt (ret_ok (ixQ_ok (x := .list (C ++ [c])) (y := .int (-1)) (by
    show (getE [.par (sessT R (C ++ [c]) S)] 0 _).map T.frz = _
    rw [getE_of (t := sessT R (C ++ [c]) S) rfl, gp_c]; rfl) rfl last_ix))) rfl
theorem race_ok : F_Session_race [sessT (R ++ [r]) C S] = .ok (.d r) [sessT (R ++ [r]) C S] := by
  unfold F_Session_race c_Session_race
  exact fn_rt (env1 := [.par (sessT (R ++ [r]) C S)]) (seq_rt (ret_ok (ixQ_ok (x := .list (R ++ [r])) (y := .int (-1)) (by
    show (getE [.par (sessT (R ++ [r]) C S)] 0 _).map T.frz = _
    rw [getE_of (t := sessT (R ++ [r]) C S) rfl, gp_r]; rfl) rfl last_ix))) rfl
theorem pk_s {env : Ev} (h : treeS (getS env i) = some (sessT R C S)) : pkP i [("Session", "own_steps")] env = .ok (.list S) env := by
  rw [e_pkP, getE_of h, gp_s]; rfl
theorem steps_ok : F_Session_steps [sessT R C S] = .ok (.lst S) [sessT R C S] := by
  unfold F_Session_steps c_Session_steps
  exact fn_rt (env1 := [.par (sessT R C S)]) (seq_rt (ret_ok (b1_ok (pk_s rfl) rfl))) rfl
theorem len_ok : F_Session___len__ [sessT R C S] = .ok (.d (.int S.length)) [sessT R C S] := by
  unfold F_Session___len__ c_Session___len__
  exact fn_rt (env1 := [.par (sessT R C S)]) (seq_rt (ret_ok (b1_ok (pk_s rfl) rfl))) rfl
theorem keep_ok (h1 : R.length < 1000) (h2 : C.length < 1000) (h3 : S.length < 1000) : F_Session_keep [sessT R C S, .d r, .d c, .d s] = .ok (.d .none) [sessT (R ++ [r]) (C ++ [c]) (S ++ [s])] := by
  unfold F_Session_keep c_Session_keep
  have A := appQ_ok (env := [.par (sessT R C S), .loc (.d r), .loc (.d c), .loc (.d s)]) (i := 0) (pa := [("Session", "own_races")]) (f := dSlot 1) (x := r) (ds := R) rfl (by rw [getE_of (t := sessT R C S) rfl, gp_r]) (by omega) (setE_of (t := sessT R C S) rfl)
  rw [sp_r] at A
  have B := appQ_ok (env := [.par (sessT (R ++ [r]) C S), .loc (.d r), .loc (.d c), .loc (.d s)]) (i := 0) (pa := [("Session", "own_clocks")]) (f := dSlot 2) (x := c) (ds := C) rfl (by rw [getE_of (t := sessT (R ++ [r]) C S) rfl, gp_c]) (by omega) (setE_of (t := sessT (R ++ [r]) C S) rfl)
  rw [sp_c] at B
  have D := appQ_ok (env := [.par (sessT (R ++ [r]) (C ++ [c]) S), .loc (.d r), .loc (.d c), .loc (.d s)]) (i := 0) (pa := [("Session", "own_steps")]) (f := dSlot 3) (x := s) (ds := S) rfl (by rw [getE_of (t := sessT (R ++ [r]) (C ++ [c]) S) rfl, gp_s]) (by omega) (setE_of (t := sessT (R ++ [r]) (C ++ [c]) S) rfl)
  rw [sp_s] at D
  exact fn_nx ((seq_nx (expr_ok A)).trans ((seq_nx (expr_ok B)).trans (seq_nx (expr_ok D)))) rfl
theorem undo_ok : F_Session_undo [sessT (R ++ [r]) (C ++ [c]) (S ++ [s])] = .ok (.d s) [sessT R C S] := by
  unfold F_Session_undo c_Session_undo
  have T0 : dIte (dNot (dTru (pkP 0 [("Session", "own_steps")]))) (dSeq (dNo) (dSkip)) (dSkip) [.par (sessT (R ++ [r]) (C ++ [c]) (S ++ [s]))] = .ok .nx [.par (sessT (R ++ [r]) (C ++ [c]) (S ++ [s]))] :=
    (ite_f (not_ok (tru_ok (b := true) (pk_s rfl) (by show some (!(S ++ [s]).isEmpty) = _; simp)))).trans rfl
  have A := pop_ok (env := [.par (sessT (R ++ [r]) (C ++ [c]) (S ++ [s]))]) (i := 0) (pa := [("Session", "own_races")]) (ds := R) (x := r) (by rw [getE_of (t := sessT (R ++ [r]) (C ++ [c]) (S ++ [s])) rfl, gp_r]) (setE_of (t := sessT (R ++ [r]) (C ++ [c]) (S ++ [s])) rfl)
  rw [sp_r] at A
  have B := pop_ok (env := [.par (sessT R (C ++ [c]) (S ++ [s]))]) (i := 0) (pa := [("Session", "own_clocks")]) (ds := C) (x := c) (by rw [getE_of (t := sessT R (C ++ [c]) (S ++ [s])) rfl, gp_c]) (setE_of (t := sessT R (C ++ [c]) (S ++ [s])) rfl)
  rw [sp_c] at B
  have D := pop_ok (env := [.par (sessT R C (S ++ [s]))]) (i := 0) (pa := [("Session", "own_steps")]) (ds := S) (x := s) (by rw [getE_of (t := sessT R C (S ++ [s])) rfl, gp_s]) (setE_of (t := sessT R C (S ++ [s])) rfl)
  rw [sp_s] at D
  exact fn_rt ((seq_nx T0).trans ((seq_nx (expr_ok A)).trans ((seq_nx (expr_ok B)).trans (seq_rt (ret_ok D))))) rfl
theorem sess_m (m : Str) (hm : m ∉ (["own_races", "own_clocks", "own_steps"] : List Str)) : instOkT "Session" m (sessT R C S) = true := by
  simp only [sessT, instOkT, decide_true, Bool.true_and]
  exact decide_eq_true hm
theorem sess_i : instT "Session" (sessT R C S) = true := by simp [sessT, instT]
theorem map_m {m : Str} (h : treeS (getS env i) = some (sessT R C S)) (hm : m ∉ (["own_races", "own_clocks", "own_steps"] : List Str)) : (treeS (getS env i)).map (instOkT "Session" m) = some true := by rw [h, Option.map_some, sess_m m hm]
theorem map_i (h : treeS (getS env i) = some (sessT R C S)) : (treeS (getS env i)).map (instT "Session") = some true := by rw [h, Option.map_some, sess_i]
/-- a getter of the session at slot i leaves all as it was -/
theorem self_call {F : Fn} (h : treeS (getS env i) = some t) (hF : F [t] = .ok u [t]) : callO [true] F [] [.inr i] env = .ok u env := by
  refine callO_ok (ts := [t]) rfl (by simp) (by rw [e_fetch_r, h]; rfl) hF ?_
  rw [e_putB_r, e_putB_n, reS_self h, setS_self]
theorem g_clock (h : treeS (getS env i) = some (sessT R (C ++ [c]) S)) : dPropO "Session" F_Session_clock i env = .ok (.d c) env := propO_ok (map_i h) (self_call h clock_ok)
theorem g_race (h : treeS (getS env i) = some (sessT (R ++ [r]) C S)) : dPropO "Session" F_Session_race i env = .ok (.d r) env := propO_ok (map_i h) (self_call h race_ok)
theorem g_steps (h : treeS (getS env i) = some (sessT R C S)) : dPropO "Session" F_Session_steps i env = .ok (.lst S) env := propO_ok (map_i h) (self_call h steps_ok)
theorem g_len (h : treeS (getS env i) = some (sessT R C S)) (hl : S.length < 1000000) : dLenOO "Session" F_Session___len__ i env = .ok (.d (.int S.length)) env := lenOO_ok (map_i h) (self_call h len_ok) hl
end
/-! races are equal -/
theorem eqDepL_of {m : Nat} : ∀ {ds : List D}, (∀ d ∈ ds, ∃ k, eqDep d = some k ∧ k ≤ m) → ∃ k, eqDepL ds = some k ∧ k ≤ m
  | [], _ => ⟨0, rfl, Nat.zero_le _⟩
  | d :: ds, h => by
    obtain ⟨a, a1, a2⟩ := h d List.mem_cons_self
    obtain ⟨b, b1, b2⟩ := eqDepL_of fun z hz => h z (List.mem_cons_of_mem _ hz)
    exact ⟨max a b, by unfold eqDepL; rw [a1, b1], Nat.max_le.mpr ⟨a2, b2⟩⟩
theorem dep_rat (q : Rat) : eqDep (ratD q) = some 1 := rfl
theorem dep_run (L : Rat) (r : Rn) : ∃ k, eqDep (runD L r) = some k ∧ k ≤ 4 := by
  obtain ⟨k, h1, h2⟩ := eqDepL_of (m := 2) (ds := r.ps.map rowD) fun d hd => by
    obtain ⟨p, _, rfl⟩ := List.mem_map.mp hd
    exact ⟨2, rfl, Nat.le_refl _⟩
  have e : eqDep (.list (r.ps.map rowD)) = some (k + 1) := by unfold eqDep; rw [h1]; rfl
  obtain ⟨j, h3, h4⟩ := eqDepL_of (m := 3) (ds := [ratD (rem r.t L), .list (r.ps.map rowD)]) fun d hd => by
    simp only [List.mem_cons, List.not_mem_nil, or_false] at hd
    rcases hd with rfl | rfl
    · exact ⟨1, dep_rat _, by decide⟩
    · exact ⟨_, e, by omega⟩
  exact ⟨j + 1, by unfold runD eqDep; rw [h3]; rfl, by omega⟩
theorem race_eq {L : Rat} {rs : List NR} : F_Race___eq__ [.d (raceD L rs), .d (raceD L rs)] = .ok (.d (.bool true)) [] := by
  unfold F_Race___eq__ c_Race___eq__
  have A : dIsO "Race" (pk 1) [.loc (.d (raceD L rs)), .loc (.d (raceD L rs))] = .ok (.d (.bool true)) [.loc (.d (raceD L rs)), .loc (.d (raceD L rs))] := isO_ok (x := raceD L rs) rfl (by simp [raceD, instC])
  have P1 : dPl 0 [("Race", "own_parts")] [.loc (.d (raceD L rs)), .loc (.d (raceD L rs))] = .ok (.d (.tup [ratD L, runsD L rs])) [.loc (.d (raceD L rs)), .loc (.d (raceD L rs))] := by simp [raceD]
  have P2 : pkP 1 [("Race", "own_parts")] [.loc (.d (raceD L rs)), .loc (.d (raceD L rs))] = .ok (.tup [ratD L, runsD L rs]) [.loc (.d (raceD L rs)), .loc (.d (raceD L rs))] := by simp [raceD]
  have E : oEqS (.tup [ratD L, runsD L rs]) (.tup [ratD L, runsD L rs]) = some (.d (.bool true)) := by
    have n : eqD (.tup [ratD L, runsD L rs]) (.tup [ratD L, runsD L rs]) = none := rfl
    obtain ⟨k, h1, h2⟩ := eqDepL_of (m := 4) (ds := runsK L rs) fun d hd => by
      obtain ⟨r, _, rfl⟩ := List.mem_map.mp hd
      exact dep_run L r.2
    have e : eqDep (runsD L rs) = some (k + 1) := by unfold runsD eqDep; rw [h1]; rfl
    obtain ⟨j, h3, h4⟩ := eqDepL_of (m := 5) (ds := [ratD L, runsD L rs]) fun d hd => by
      simp only [List.mem_cons, List.not_mem_nil, or_false] at hd
      rcases hd with rfl | rfl
      · exact ⟨1, dep_rat _, by decide⟩
      · exact ⟨_, e, by omega⟩
    unfold oEqS
    rw [n]
    dsimp only
    rw [if_pos ⟨rfl, j, h3, by omega⟩]
  exact fn_rt (seq_rt (ret_ok ((andV_t A).trans (bn_ok P1 P2 E)))) rfl
end Pn

/-! steps of sessions -/
namespace Pn
open PySem Dn Cd Mq
section
variable {R C S : List D} {r c s x y : D} {env : Ev} {i : Nat} {a b : Nat} {p q v L : Rat} {rs : List NR} {rr : NR}
theorem keep_call (h : treeS (getS env i) = some (sessT R C S)) (h1 : R.length < 1000) (h2 : C.length < 1000) (h3 : S.length < 1000) : callO m_Session_keep F_Session_keep [] [.inr i, .inl r, .inl c, .inl s] env = .ok (.d .none) (setS env i (reS (getS env i) (sessT (R ++ [r]) (C ++ [c]) (S ++ [s])))) := by
  refine callO_ok (ts := [sessT R C S, .d r, .d c, .d s]) rfl (by simp) (by simp [h]) (keep_ok h1 h2 h3) ?_
  rw [e_putB_r]; rfl
theorem keep_m : ("keep" : Str) ∉ (["own_races", "own_clocks", "own_steps"] : List Str) := by decide +kernel
theorem advance_ok (hx : NumD x p) (sx : Sz a p) (sq : Sz b q) (ha : a + b ≤ 3000) (le : q ≤ p) (p0 : 0 ≤ p) (h1 : R.length < 900) (h2 : C.length < 900) (h3 : S.length < 900) : F_Session_advance [sessT (R ++ [r]) (C ++ [ratD q]) S, .d x] = .ok (.d .none) [sessT (R ++ [r] ++ [r]) (C ++ [ratD q] ++ [ratD p]) (S ++ [.tup [.str "advance", ratD p]])] := by
  have tt := as_time_ok hx sx (by omega) p0
  have cp := compare_ok (NumD.rat p) (NumD.rat q) sx sq (by omega)
  have ncl : ¬ cmpQ p q < 0 := fun z => Rat.not_lt.mpr le ((cmpQ_lt_iff _ _).mp z)
  unfold F_Session_advance c_Session_advance
  have A1 : dSet 2 (dCallP F_as_time 1 [] (dCons (dVar 1) (dNil))) [.par (sessT (R ++ [r]) (C ++ [ratD q]) S), .loc (.d x), .none] = .ok .nx [.par (sessT (R ++ [r]) (C ++ [ratD q]) S), .loc (.d x), .loc (.d (ratD p))] := set_ok (call_ok (ar1 rfl) (callP_1 tt)) rfl
  have G : dPropO "Session" F_Session_clock 0 [.par (sessT (R ++ [r]) (C ++ [ratD q]) S), .loc (.d x), .loc (.d (ratD p))] = .ok (.d (ratD q)) _ := g_clock (R := R ++ [r]) (C := C) (S := S) rfl
  have B : aB (dBn oLt (dCallP F_compare 2 [] (dCons (dVar 2) (dCons (dPropO "Session" F_Session_clock 0) (dNil)))) (frzD (dC (.int 0)))) [.par (sessT (R ++ [r]) (C ++ [ratD q]) S), .loc (.d x), .loc (.d (ratD p))] = .ok (decide (cmpQ p q < 0)) [.par (sessT (R ++ [r]) (C ++ [ratD q]) S), .loc (.d x), .loc (.d (ratD p))] :=
    aB_ok (bn_ok (call_ok (cons_ok (vr rfl) (cons_ok G nil_ok)) (callP_2 cp)) rfl e_lt_i)
  have A2 : dIte (aB (dBn oLt (dCallP F_compare 2 [] (dCons (dVar 2) (dCons (dPropO "Session" F_Session_clock 0) (dNil)))) (frzD (dC (.int 0))))) (dSeq (dNo) (dSkip)) (dSkip) [.par (sessT (R ++ [r]) (C ++ [ratD q]) S), .loc (.d x), .loc (.d (ratD p))] = .ok .nx [.par (sessT (R ++ [r]) (C ++ [ratD q]) S), .loc (.d x), .loc (.d (ratD p))] := by
    rw [decide_eq_false ncl] at B
    exact (ite_f B).trans rfl
  have G2 : dPropO "Session" F_Session_race 0 [.par (sessT (R ++ [r]) (C ++ [ratD q]) S), .loc (.d x), .loc (.d (ratD p))] = .ok (.d r) _ := g_race (R := R) (C := C ++ [ratD q]) (S := S) rfl
  have T3 : dTup (dCons (dC (.str "advance")) (dCons (dVar 2) (dNil))) [.par (sessT (R ++ [r]) (C ++ [ratD q]) S), .loc (.d x), .loc (.d (ratD p))] = .ok (.d (.tup [.str "advance", ratD p])) [.par (sessT (R ++ [r]) (C ++ [ratD q]) S), .loc (.d x), .loc (.d (ratD p))] := tup_ok (cons_ok (t := .d (.str "advance")) rfl (ar1 rfl)) (by show 2 ≤ sizeLine; decide)
  have K := keep_call (R := R ++ [r]) (C := C ++ [ratD q]) (S := S) (r := r) (c := ratD p) (s := .tup [.str "advance", ratD p]) (i := 0) (env := [.par (sessT (R ++ [r]) (C ++ [ratD q]) S), .loc (.d x), .loc (.d (ratD p))]) rfl (by simp; omega) (by simp; omega) (by omega)
  have M := methO_ok (map_m (i := 0) (env := [.par (sessT (R ++ [r]) (C ++ [ratD q]) S), .loc (.d x), .loc (.d (ratD p))]) rfl keep_m) (rD_ok G2 (rD_ok (t := .d (ratD p)) (vr (i := 2) rfl) (rD_ok T3 rfl))) K
  exact fn_nx ((seq_nx A1).trans ((seq_nx A2).trans (seq_nx (expr_ok M)))) rfl
theorem set_speed_ok {j : Nat} (h : EOk L j rs) (hm : rr ∈ rs) (hL : 0 < L) (sL : Sz 100 L) (hj : j ≤ 8) (sq : Sz 100 q) (q0 : 0 ≤ q) (hy : NumD y v) (sv : Sz 100 v) (h1 : R.length < 900) (h2 : C.length < 900) (h3 : S.length < 900) :
    F_Session_set_speed [sessT (R ++ [raceD L rs]) (C ++ [ratD q]) S, .d (.str rr.1), .d y] = .ok (.d .none) [sessT (R ++ [raceD L rs] ++ [raceD L (chgR L rr q v rs)]) (C ++ [ratD q] ++ [ratD q]) (S ++ [.tup [.str "speed", .str rr.1, ratD v]])] := by
  have ch := changed_ok h hm hL sL hj (NumD.rat q) sq q0 hy sv
  have rv := as_ratio_num hy
  unfold F_Session_set_speed c_Session_set_speed
  have GR : dPropO "Session" F_Session_race 0 [.par (sessT (R ++ [raceD L rs]) (C ++ [ratD q]) S), .loc (.d (.str rr.1)), .loc (.d y), .none] = .ok (.d (raceD L rs)) _ := g_race (R := R) (C := C ++ [ratD q]) (S := S) rfl
  have GC : dPropO "Session" F_Session_clock 0 [.par (sessT (R ++ [raceD L rs]) (C ++ [ratD q]) S), .loc (.d (.str rr.1)), .loc (.d y), .none] = .ok (.d (ratD q)) _ := g_clock (R := R ++ [raceD L rs]) (C := C) (S := S) rfl
  have M1 := meth_ev (n := 4) (C := "Race") (m := "changed") GR (cons_ok (vr (i := 1) rfl) (cons_ok GC (cons_ok (t := .d y) (vr (i := 2) rfl) nil_ok))) (instOk_race "changed" (by decide +kernel)) (callP_ok rfl ch)
  have A1 := set_ok (i := 3) (env2 := [.par (sessT (R ++ [raceD L rs]) (C ++ [ratD q]) S), .loc (.d (.str rr.1)), .loc (.d y), .loc (raceT L (chgR L rr q v rs))]) M1 rfl
  have V3 : dVar 3 [.par (sessT (R ++ [raceD L rs]) (C ++ [ratD q]) S), .loc (.d (.str rr.1)), .loc (.d y), .loc (raceT L (chgR L rr q v rs))] = .ok (.d (raceD L (chgR L rr q v rs))) [.par (sessT (R ++ [raceD L rs]) (C ++ [ratD q]) S), .loc (.d (.str rr.1)), .loc (.d y), .loc (.d (raceD L (chgR L rr q v rs)))] := rfl
  have GC2 : dPropO "Session" F_Session_clock 0 [.par (sessT (R ++ [raceD L rs]) (C ++ [ratD q]) S), .loc (.d (.str rr.1)), .loc (.d y), .loc (.d (raceD L (chgR L rr q v rs)))] = .ok (.d (ratD q)) _ := g_clock (R := R ++ [raceD L rs]) (C := C) (S := S) rfl
  have T3 : dTup (dCons (dC (.str "speed")) (dCons (dVar 1) (dCons (dCallP F_as_ratio 1 [] (dCons (dVar 2) (dNil))) (dNil)))) [.par (sessT (R ++ [raceD L rs]) (C ++ [ratD q]) S), .loc (.d (.str rr.1)), .loc (.d y), .loc (.d (raceD L (chgR L rr q v rs)))] = .ok (.d (.tup [.str "speed", .str rr.1, ratD v])) [.par (sessT (R ++ [raceD L rs]) (C ++ [ratD q]) S), .loc (.d (.str rr.1)), .loc (.d y), .loc (.d (raceD L (chgR L rr q v rs)))] :=
    tup_ok (cons_ok (t := .d (.str "speed")) rfl (cons_ok (vr rfl) (cons_ok (t := .d (ratD v)) (call_ok (ar1 rfl) (callP_1 rv)) nil_ok))) (by show 3 ≤ sizeLine; decide)
  have K := keep_call (R := R ++ [raceD L rs]) (C := C ++ [ratD q]) (S := S) (r := raceD L (chgR L rr q v rs)) (c := ratD q) (s := .tup [.str "speed", .str rr.1, ratD v]) (i := 0) (env := [.par (sessT (R ++ [raceD L rs]) (C ++ [ratD q]) S), .loc (.d (.str rr.1)), .loc (.d y), .loc (.d (raceD L (chgR L rr q v rs)))]) rfl (by simp; omega) (by simp; omega) (by omega)
  have M := methO_ok (map_m (i := 0) (env := [.par (sessT (R ++ [raceD L rs]) (C ++ [ratD q]) S), .loc (.d (.str rr.1)), .loc (.d y), .loc (raceT L (chgR L rr q v rs))]) rfl keep_m) (rD_ok V3 (rD_ok GC2 (rD_ok T3 rfl))) K
  exact fn_nx ((seq_nx A1).trans (seq_nx (expr_ok M))) rfl
theorem set_speed_call {j : Nat} (hs : treeS (getS env i) = some (sessT (R ++ [raceD L rs]) (C ++ [ratD q]) S)) (h : EOk L j rs) (hm : rr ∈ rs) (hL : 0 < L) (sL : Sz 100 L) (hj : j ≤ 8) (sq : Sz 100 q) (q0 : 0 ≤ q) (hy : NumD y v) (sv : Sz 100 v) (h1 : R.length < 900) (h2 : C.length < 900) (h3 : S.length < 900) :
    callO m_Session_set_speed F_Session_set_speed [] [.inr i, .inl (.str rr.1), .inl y] env = .ok (.d .none) (setS env i (reS (getS env i) (sessT (R ++ [raceD L rs] ++ [raceD L (chgR L rr q v rs)]) (C ++ [ratD q] ++ [ratD q]) (S ++ [.tup [.str "speed", .str rr.1, ratD v]])))) := by
  refine callO_ok (ts := [sessT (R ++ [raceD L rs]) (C ++ [ratD q]) S, .d (.str rr.1), .d y]) rfl (by simp) (by simp [hs]) (set_speed_ok h hm hL sL hj sq q0 hy sv h1 h2 h3) ?_
  rw [e_putB_r]; rfl
theorem stop_ok {j : Nat} (h : EOk L j rs) (hm : rr ∈ rs) (hL : 0 < L) (sL : Sz 100 L) (hj : j ≤ 8) (sq : Sz 100 q) (q0 : 0 ≤ q) (h1 : R.length < 900) (h2 : C.length < 900) (h3 : S.length < 900) :
    F_Session_stop [sessT (R ++ [raceD L rs]) (C ++ [ratD q]) S, .d (.str rr.1)] = .ok (.d .none) [sessT (R ++ [raceD L rs] ++ [raceD L (chgR L rr q 0 rs)]) (C ++ [ratD q] ++ [ratD q]) (S ++ [.tup [.str "speed", .str rr.1, ratD 0]])] := by
  unfold F_Session_stop c_Session_stop
  have K := set_speed_call (i := 0) (R := R) (C := C) (S := S) (rr := rr) (env := [.par (sessT (R ++ [raceD L rs]) (C ++ [ratD q]) S), .loc (.d (.str rr.1))]) rfl h hm hL sL hj sq q0 zero_num (zero_sz.up (by decide)) h1 h2 h3
  have M := methO_ok (C := "Session") (m := "set_speed") (ds := rD (dVar 1) (rD (dC (.int 0)) (rNil))) (map_m (i := 0) (env := [.par (sessT (R ++ [raceD L rs]) (C ++ [ratD q]) S), .loc (.d (.str rr.1))]) rfl (by decide +kernel)) (rD_ok (vr rfl) (rD_ok (t := .d (.int 0)) rfl rfl)) K
  exact fn_nx (seq_nx (expr_ok M)) rfl
theorem stop_call {j : Nat} (hs : treeS (getS env i) = some (sessT (R ++ [raceD L rs]) (C ++ [ratD q]) S)) (h : EOk L j rs) (hm : rr ∈ rs) (hL : 0 < L) (sL : Sz 100 L) (hj : j ≤ 8) (sq : Sz 100 q) (q0 : 0 ≤ q) (h1 : R.length < 900) (h2 : C.length < 900) (h3 : S.length < 900) :
    callO m_Session_stop F_Session_stop [] [.inr i, .inl (.str rr.1)] env = .ok (.d .none) (setS env i (reS (getS env i) (sessT (R ++ [raceD L rs] ++ [raceD L (chgR L rr q 0 rs)]) (C ++ [ratD q] ++ [ratD q]) (S ++ [.tup [.str "speed", .str rr.1, ratD 0]])))) := by
  refine callO_ok (ts := [sessT (R ++ [raceD L rs]) (C ++ [ratD q]) S, .d (.str rr.1)]) rfl (by simp) (by simp [hs]) (stop_ok h hm hL sL hj sq q0 h1 h2 h3) ?_
  rw [e_putB_r]; rfl
theorem advance_call (hs : treeS (getS env i) = some (sessT (R ++ [r]) (C ++ [ratD q]) S)) (hx : NumD x p) (sx : Sz a p) (sq : Sz b q) (ha : a + b ≤ 3000) (le : q ≤ p) (p0 : 0 ≤ p) (h1 : R.length < 900) (h2 : C.length < 900) (h3 : S.length < 900) :
    callO m_Session_advance F_Session_advance [] [.inr i, .inl x] env = .ok (.d .none) (setS env i (reS (getS env i) (sessT (R ++ [r] ++ [r]) (C ++ [ratD q] ++ [ratD p]) (S ++ [.tup [.str "advance", ratD p]])))) := by
  refine callO_ok (ts := [sessT (R ++ [r]) (C ++ [ratD q]) S, .d x]) rfl (by simp) (by simp [hs]) (advance_ok hx sx sq ha le p0 h1 h2 h3) ?_
  rw [e_putB_r]; rfl
end
end Pn

/-! a step of the law -/
namespace Pn
open PySem Dn Cd Mq
theorem draw_c {c s m : Int} (hs : SdOk s) (h1 : 1 ≤ m) (h2 : m < 1000) : ∃ v c' s', SdOk s' ∧ 0 ≤ v ∧ v < m ∧ ∀ (env : Ev) (i : Nat), treeS (getS env i) = some (poolT c s) → dCallO m__law_draw F__law_draw [] (rO i (rD (dC (.int m)) rNil)) env = .ok (.d (.int v)) (setS env i (reS (getS env i) (poolT c' s'))) := by
  obtain ⟨v, c', s', k, a, b, e⟩ := draw_ok (c := c) hs h1 h2
  refine ⟨v, c', s', k, a, b, fun env i h => dCallO_ok (rO_ok (by rw [h]; rfl) (rD_ok (t := .d (.int m)) rfl rfl)) (callO_ok (ts := [poolT c s, .d (.int m)]) rfl (by simp) (by simp [h]) e ?_)⟩
  rw [e_putB_r]; rfl
theorem number_c {c s low high : Int} (hs : SdOk s) (h1 : low ≤ high) (h2 : -100 ≤ low) (h3 : high ≤ 100) : ∃ x q c' s', SdOk s' ∧ DrNum low x q ∧ ∀ (env : Ev) (i : Nat) (ds : Ev → Rs (List RA)), treeS (getS env i) = some (poolT c s) → ds env = .ok [.inl (.int low), .inl (.int high)] env → dCallO m__law_number F__law_number [] (rO i ds) env = .ok (.d x) (setS env i (reS (getS env i) (poolT c' s'))) := by
  obtain ⟨x, q, c', s', k, a, e⟩ := number_ok (c := c) hs h1 h2 h3
  refine ⟨x, q, c', s', k, a, fun env i ds h hd => dCallO_ok (rO_ok (by rw [h]; rfl) hd) (callO_ok (ts := [poolT c s, .d (.int low), .d (.int high)]) rfl (by simp) (by simp [h]) e ?_)⟩
  rw [e_putB_r]; rfl
theorem choose_c {c s : Int} {ds : List D} (hs : SdOk s) (h1 : ds ≠ []) (h2 : ds.length < 1000) : ∃ x c' s', SdOk s' ∧ x ∈ ds ∧ ∀ (env : Ev) (i : Nat) (as : Ev → Rs (List RA)), treeS (getS env i) = some (poolT c s) → as env = .ok [.inl (.list ds)] env → dCallO m__law_choose F__law_choose [] (rO i as) env = .ok (.d x) (setS env i (reS (getS env i) (poolT c' s'))) := by
  obtain ⟨x, c', s', k, a, e⟩ := choose_ok (c := c) hs h1 h2
  refine ⟨x, c', s', k, a, fun env i as h hd => dCallO_ok (rO_ok (by rw [h]; rfl) hd) (callO_ok (ts := [poolT c s, .d (.list ds)]) rfl (by simp) (by simp [h]) e ?_)⟩
  rw [e_putB_r]; rfl
theorem neg4 (env : Ev) : rD (dUn oNeg (frzD (dC (.int 4)))) (rD (dC (.int 4)) (rNil)) env = .ok [.inl (.int (-4)), .inl (.int 4)] env := rfl
/-- what a step does to race and clock -/
def StepTo (L : Rat) (rs : List NR) (q : Rat) (x : D) (rs2 : List NR) (q2 : Rat) : Prop :=
  (∃ g, 0 ≤ g ∧ Sz 10 g ∧ x = .tup [.str "advance", ratD (q + g)] ∧ rs2 = rs ∧ q2 = q + g) ∨
  (∃ r ∈ rs, ∃ v, Sz 10 v ∧ x = .tup [.str "speed", .str r.1, ratD v] ∧ rs2 = chgR L r q v rs ∧ q2 = q)
section
variable {R C S : List D} {r c s x y : D} {env : Ev} {i j a : Nat} {p q v L : Rat} {rs : List NR} {rr : NR}
theorem law_step_ok {c s : Int} (hs : SdOk s) (h : EOk L j rs) (hL : 0 < L) (sL : Sz 100 L) (hj : j ≤ 8) (sq : Sz 95 q) (q0 : 0 ≤ q) (h1 : R.length < 900) (h2 : C.length < 900) (h3 : S.length < 900) :
    ∃ c' s' x rs2 q2, SdOk s' ∧ StepTo L rs q x rs2 q2 ∧ F__law_step [poolT c s, sessT (R ++ [raceD L rs]) (C ++ [ratD q]) S] = .ok (.d x) [poolT c' s', sessT (R ++ [raceD L rs] ++ [raceD L rs2]) (C ++ [ratD q] ++ [ratD q2]) (S ++ [x])] := by
  obtain ⟨w, c1, s1, k1, w0, w1, e1⟩ := draw_c (c := c) (m := 4) hs (by decide) (by decide)
  have A1 : dSet 2 (dCallO m__law_draw F__law_draw [] (rO 0 (rD (dC (.int 4)) (rNil)))) [.par (poolT c s), .par (sessT (R ++ [raceD L rs]) (C ++ [ratD q]) S), .none, .none, .none, .none] = .ok .nx [.par (poolT c1 s1), .par (sessT (R ++ [raceD L rs]) (C ++ [ratD q]) S), .loc (.d (.int w)), .none, .none, .none] := set_ok (e1 _ 0 rfl) rfl
  have T0 : aB (dBp oEq 2 (frzD (dC (.int 0)))) [.par (poolT c1 s1), .par (sessT (R ++ [raceD L rs]) (C ++ [ratD q]) S), .loc (.d (.int w)), .none, .none, .none] = .ok (decide (w = 0)) [.par (poolT c1 s1), .par (sessT (R ++ [raceD L rs]) (C ++ [ratD q]) S), .loc (.d (.int w)), .none, .none, .none] := aB_ok (bp_ok rfl rfl rfl (eq_o e_eqD_i))
  unfold F__law_step c__law_step
  by_cases hw : w = 0
  · rw [decide_eq_true hw] at T0
    obtain ⟨x, g, c2, s2, k2, dg, e2⟩ := number_c (c := c1) (low := 0) (high := 6) k1 (by decide) (by decide) (by decide)
    have g0 := dg.nn (by decide)
    have pl := plus_ok (NumD.rat q) dg.hx sq dg.sz (by decide)
    have le : q ≤ q + g := by grind
    have n0 : 0 ≤ q + g := Rat.le_trans q0 le
    have G : dPropO "Session" F_Session_clock 1 [.par (poolT c1 s1), .par (sessT (R ++ [raceD L rs]) (C ++ [ratD q]) S), .loc (.d (.int w)), .none, .none, .none] = .ok (.d (ratD q)) _ := g_clock (R := R ++ [raceD L rs]) (C := C) (S := S) rfl
    have N := e2 [.par (poolT c1 s1), .par (sessT (R ++ [raceD L rs]) (C ++ [ratD q]) S), .loc (.d (.int w)), .none, .none, .none] 0 (rD (dC (.int 0)) (rD (dC (.int 6)) (rNil))) rfl rfl
    have B1 := set_ok (i := 3) (env2 := [.par (poolT c2 s2), .par (sessT (R ++ [raceD L rs]) (C ++ [ratD q]) S), .loc (.d (.int w)), .loc (.d (ratD (q + g))), .none, .none]) (call_ok (F := F_plus) (n := 2) (dvs := []) (cons_ok G (cons_ok N nil_ok)) (callP_2 pl)) rfl
    have K := advance_call (i := 1) (env := [.par (poolT c2 s2), .par (sessT (R ++ [raceD L rs]) (C ++ [ratD q]) S), .loc (.d (.int w)), .loc (.d (ratD (q + g))), .none, .none]) (R := R) (C := C) (S := S) rfl (NumD.rat (q + g)) (sq.add dg.sz) sq (by decide) le n0 h1 h2 h3
    have M := methO_ok (C := "Session") (m := "advance") (ds := rD (dVar 3) (rNil)) (map_m (i := 1) (env := [.par (poolT c2 s2), .par (sessT (R ++ [raceD L rs]) (C ++ [ratD q]) S), .loc (.d (.int w)), .loc (.d (ratD (q + g))), .none, .none]) rfl (by decide +kernel)) (rD_ok (t := .d (ratD (q + g))) (vr rfl) rfl) K
    have B3 : dTup (dCons (dC (.str "advance")) (dCons (dVar 3) (dNil))) [.par (poolT c2 s2), .par (sessT (R ++ [raceD L rs] ++ [raceD L rs]) (C ++ [ratD q] ++ [ratD (q + g)]) (S ++ [.tup [.str "advance", ratD (q + g)]])), .loc (.d (.int w)), .loc (.d (ratD (q + g))), .none, .none] = .ok (.d (.tup [.str "advance", ratD (q + g)])) [.par (poolT c2 s2), .par (sessT (R ++ [raceD L rs] ++ [raceD L rs]) (C ++ [ratD q] ++ [ratD (q + g)]) (S ++ [.tup [.str "advance", ratD (q + g)]])), .loc (.d (.int w)), .loc (.d (ratD (q + g))), .none, .none] :=
      tup_ok (cons_ok (t := .d (.str "advance")) rfl (ar1 rfl)) (by show 2 ≤ sizeLine; decide)
    refine ⟨c2, s2, _, rs, q + g, k2, .inl ⟨g, g0, dg.sz, rfl, rfl, rfl⟩, ?_⟩
    exact fn_rt ((seq_nx A1).trans (seq_rt ((ite_t T0).trans ((seq_nx B1).trans ((seq_nx (expr_ok M)).trans (seq_rt (ret_ok B3))))))) rfl
  · rw [decide_eq_false hw] at T0
    have nn : (rs.map fun r => D.str r.1) ≠ [] := fun z => h.h.ne (List.map_eq_nil_iff.mp z)
    have few := h.h.few
    obtain ⟨y, c2, s2, k2, hy, e2⟩ := choose_c (c := c1) (ds := rs.map fun r => D.str r.1) k1 nn (by rw [List.length_map]; omega)
    obtain ⟨rr, hr, rfl⟩ := List.mem_map.mp hy
    obtain ⟨x, v, c3, s3, k3, dv, e3⟩ := number_c (c := c2) (low := -4) (high := 4) k2 (by decide) (by decide) (by decide)
    have GR : dPropO "Session" F_Session_race 1 [.par (poolT c1 s1), .par (sessT (R ++ [raceD L rs]) (C ++ [ratD q]) S), .loc (.d (.int w)), .none, .none, .none] = .ok (.d (raceD L rs)) _ := g_race (R := R) (C := C ++ [ratD q]) (S := S) rfl
    have MN := meth_ev (n := 1) (C := "Race") (m := "names") GR nil_ok (instOk_race "names" (by decide +kernel)) (callP_1 names_ok)
    have C1 := e2 [.par (poolT c1 s1), .par (sessT (R ++ [raceD L rs]) (C ++ [ratD q]) S), .loc (.d (.int w)), .none, .none, .none] 0 (rD (dMethP "Race" "names" F_Race_names 1 [] (dPropO "Session" F_Session_race 1) dNil) (rNil)) rfl (rD_ok MN rfl)
    have C2 := e3 [.par (poolT c2 s2), .par (sessT (R ++ [raceD L rs]) (C ++ [ratD q]) S), .loc (.d (.int w)), .none, .none, .none] 0 _ rfl (neg4 _)
    have A2 := par2_ok (i := 4) (j := 5) (env3 := [.par (poolT c3 s3), .par (sessT (R ++ [raceD L rs]) (C ++ [ratD q]) S), .loc (.d (.int w)), .none, .loc (.d (.str rr.1)), .loc (.d x)]) C1 C2 rfl
    have T1 : aB (dBp oEq 2 (frzD (dC (.int 1)))) [.par (poolT c3 s3), .par (sessT (R ++ [raceD L rs]) (C ++ [ratD q]) S), .loc (.d (.int w)), .none, .loc (.d (.str rr.1)), .loc (.d x)] = .ok (decide (w = 1)) [.par (poolT c3 s3), .par (sessT (R ++ [raceD L rs]) (C ++ [ratD q]) S), .loc (.d (.int w)), .none, .loc (.d (.str rr.1)), .loc (.d x)] := aB_ok (bp_ok rfl rfl rfl (eq_o e_eqD_i))
    have sq2 : Sz 100 q := sq.up (by decide)
    by_cases hw1 : w = 1
    · rw [decide_eq_true hw1] at T1
      have K := stop_call (i := 1) (env := [.par (poolT c3 s3), .par (sessT (R ++ [raceD L rs]) (C ++ [ratD q]) S), .loc (.d (.int w)), .none, .loc (.d (.str rr.1)), .loc (.d x)]) (R := R) (C := C) (S := S) rfl h hr hL sL hj sq2 q0 h1 h2 h3
      have M := methO_ok (C := "Session") (m := "stop") (ds := rD (dVar 4) (rNil)) (map_m (i := 1) (env := [.par (poolT c3 s3), .par (sessT (R ++ [raceD L rs]) (C ++ [ratD q]) S), .loc (.d (.int w)), .none, .loc (.d (.str rr.1)), .loc (.d x)]) rfl (by decide +kernel)) (rD_ok (vr rfl) rfl) K
      have B3 : dTup (dCons (dC (.str "speed")) (dCons (dVar 4) (dCons (dTup (dCons (dC (.int 0)) (dCons (dC (.int 1)) (dNil)))) (dNil)))) [.par (poolT c3 s3), .par (sessT (R ++ [raceD L rs] ++ [raceD L (chgR L rr q 0 rs)]) (C ++ [ratD q] ++ [ratD q]) (S ++ [.tup [.str "speed", .str rr.1, ratD 0]])), .loc (.d (.int w)), .none, .loc (.d (.str rr.1)), .loc (.d x)] = .ok (.d (.tup [.str "speed", .str rr.1, ratD 0])) [.par (poolT c3 s3), .par (sessT (R ++ [raceD L rs] ++ [raceD L (chgR L rr q 0 rs)]) (C ++ [ratD q] ++ [ratD q]) (S ++ [.tup [.str "speed", .str rr.1, ratD 0]])), .loc (.d (.int w)), .none, .loc (.d (.str rr.1)), .loc (.d x)] :=
        tup_ok (cons_ok (t := .d (.str "speed")) rfl (cons_ok (vr rfl) (cons_ok (t := .d (ratD 0)) (tup_ok (xs := [.int 0, .int 1]) (cons_ok (t := .d (.int 0)) rfl (cons_ok (t := .d (.int 1)) rfl nil_ok)) (by show 2 ≤ sizeLine; decide)) nil_ok))) (by show 3 ≤ sizeLine; decide)
      refine ⟨c3, s3, _, _, q, k3, .inr ⟨rr, hr, 0, zero_sz.up (by decide), rfl, rfl, rfl⟩, ?_⟩
      exact fn_rt ((seq_nx A1).trans ((seq_nx (ite_f T0)).trans ((seq_nx A2).trans (seq_rt ((ite_t T1).trans ((seq_nx (expr_ok M)).trans (seq_rt (ret_ok B3)))))))) rfl
    · rw [decide_eq_false hw1] at T1
      have K := set_speed_call (i := 1) (env := [.par (poolT c3 s3), .par (sessT (R ++ [raceD L rs]) (C ++ [ratD q]) S), .loc (.d (.int w)), .none, .loc (.d (.str rr.1)), .loc (.d x)]) (R := R) (C := C) (S := S) rfl h hr hL sL hj sq2 q0 dv.hx (dv.sz.up (by decide)) h1 h2 h3
      have M := methO_ok (C := "Session") (m := "set_speed") (ds := rD (dVar 4) (rD (dVar 5) (rNil))) (map_m (i := 1) (env := [.par (poolT c3 s3), .par (sessT (R ++ [raceD L rs]) (C ++ [ratD q]) S), .loc (.d (.int w)), .none, .loc (.d (.str rr.1)), .loc (.d x)]) rfl (by decide +kernel)) (rD_ok (vr rfl) (rD_ok (t := .d x) (vr rfl) rfl)) K
      have pl := plus_ok dv.hx zero_num dv.sz zero_sz (by decide)
      rw [Rat.add_zero] at pl
      have B3 : dTup (dCons (dC (.str "speed")) (dCons (dVar 4) (dCons (dCallP F_plus 2 [] (dCons (dVar 5) (dCons (dC (.int 0)) (dNil)))) (dNil)))) [.par (poolT c3 s3), .par (sessT (R ++ [raceD L rs] ++ [raceD L (chgR L rr q v rs)]) (C ++ [ratD q] ++ [ratD q]) (S ++ [.tup [.str "speed", .str rr.1, ratD v]])), .loc (.d (.int w)), .none, .loc (.d (.str rr.1)), .loc (.d x)] = .ok (.d (.tup [.str "speed", .str rr.1, ratD v])) [.par (poolT c3 s3), .par (sessT (R ++ [raceD L rs] ++ [raceD L (chgR L rr q v rs)]) (C ++ [ratD q] ++ [ratD q]) (S ++ [.tup [.str "speed", .str rr.1, ratD v]])), .loc (.d (.int w)), .none, .loc (.d (.str rr.1)), .loc (.d x)] :=
        tup_ok (cons_ok (t := .d (.str "speed")) rfl (cons_ok (vr rfl) (cons_ok (t := .d (ratD v)) (call_ok (cons_ok (t := .d x) (vr rfl) (cons_ok (t := .d (.int 0)) rfl nil_ok)) (callP_2 pl)) nil_ok))) (by show 3 ≤ sizeLine; decide)
      refine ⟨c3, s3, _, _, q, k3, .inr ⟨rr, hr, v, dv.sz, rfl, rfl, rfl⟩, ?_⟩
      exact fn_rt ((seq_nx A1).trans ((seq_nx (ite_f T0)).trans ((seq_nx A2).trans ((seq_nx (ite_f T1)).trans ((seq_nx (expr_ok M)).trans (seq_rt (ret_ok B3))))))) rfl
end
end Pn

/-! one turn of the law -/
namespace Pn
open PySem Dn Cd Mq
section
variable {R C S : List D} {r c s x y : D} {env : Ev} {i j a : Nat} {p q v L : Rat} {rs : List NR} {rr : NR}
theorem m1_ev (env : Ev) : frzD (dUn oNeg (frzD (dC (.int 1)))) env = .ok (.int (-1)) env := rfl
theorem same_ok (hS : ∀ x ∈ S, EqOk 2 x) (hl : S.length < 900) : F__law_same [sessT (R ++ [raceD L rs]) (C ++ [ratD q]) S, .lst (R ++ [raceD L rs]), .lst (C ++ [ratD q]), .lst S] = .ok (.d (.bool true)) [sessT (R ++ [raceD L rs]) (C ++ [ratD q]) S, .lst (R ++ [raceD L rs]), .lst (C ++ [ratD q]), .lst S] := by
  unfold F__law_same c__law_same
  have GR : dPropO "Session" F_Session_race 0 [.par (sessT (R ++ [raceD L rs]) (C ++ [ratD q]) S), .par (.lst (R ++ [raceD L rs])), .par (.lst (C ++ [ratD q])), .par (.lst S)] = .ok (.d (raceD L rs)) _ := g_race (R := R) (C := C ++ [ratD q]) (S := S) rfl
  have GC : dPropO "Session" F_Session_clock 0 [.par (sessT (R ++ [raceD L rs]) (C ++ [ratD q]) S), .par (.lst (R ++ [raceD L rs])), .par (.lst (C ++ [ratD q])), .par (.lst S)] = .ok (.d (ratD q)) _ := g_clock (R := R ++ [raceD L rs]) (C := C) (S := S) rfl
  have GS : dPropO "Session" F_Session_steps 0 [.par (sessT (R ++ [raceD L rs]) (C ++ [ratD q]) S), .par (.lst (R ++ [raceD L rs])), .par (.lst (C ++ [ratD q])), .par (.lst S)] = .ok (.lst S) _ := g_steps (R := R ++ [raceD L rs]) (C := C ++ [ratD q]) (S := S) rfl
  have GL : dLenOO "Session" F_Session___len__ 0 [.par (sessT (R ++ [raceD L rs]) (C ++ [ratD q]) S), .par (.lst (R ++ [raceD L rs])), .par (.lst (C ++ [ratD q])), .par (.lst S)] = .ok (.d (.int S.length)) _ := g_len (R := R ++ [raceD L rs]) (C := C ++ [ratD q]) (S := S) rfl (by omega)
  have I1 : dIxp 1 (frzD (dUn oNeg (frzD (dC (.int 1))))) [.par (sessT (R ++ [raceD L rs]) (C ++ [ratD q]) S), .par (.lst (R ++ [raceD L rs])), .par (.lst (C ++ [ratD q])), .par (.lst S)] = .ok (.d (raceD L rs)) [.par (sessT (R ++ [raceD L rs]) (C ++ [ratD q]) S), .par (.lst (R ++ [raceD L rs])), .par (.lst (C ++ [ratD q])), .par (.lst S)] := ixp_ok rfl (m1_ev _) rfl (last_ix (C := R))
  have I2 : dIxp 2 (frzD (dUn oNeg (frzD (dC (.int 1))))) [.par (sessT (R ++ [raceD L rs]) (C ++ [ratD q]) S), .par (.lst (R ++ [raceD L rs])), .par (.lst (C ++ [ratD q])), .par (.lst S)] = .ok (.d (ratD q)) [.par (sessT (R ++ [raceD L rs]) (C ++ [ratD q]) S), .par (.lst (R ++ [raceD L rs])), .par (.lst (C ++ [ratD q])), .par (.lst S)] := ixp_ok rfl (m1_ev _) rfl (last_ix (C := C))
  have iR : instC "Race" (raceD L rs) = true := by simp [raceD, instC]
  have E1 := aB_ok (eqO_ok (neg := true) (C := "Race") GR I1 (by show (instC "Race" (raceD L rs) && instC "Race" (raceD L rs)) = true; rw [iR]; rfl) race_eq)
  have N2 := ne_ev GC (frz_ok I2) ((eqD_rat2 q q).trans (congrArg some (decide_eq_true rfl)))
  have eS : EqOk 3 (.list S) := EqOk.list hS
  have rS := eqD_refl eS (by decide)
  have P3 : pk 3 [.par (sessT (R ++ [raceD L rs]) (C ++ [ratD q]) S), .par (.lst (R ++ [raceD L rs])), .par (.lst (C ++ [ratD q])), .par (.lst S)] = .ok (.list S) [.par (sessT (R ++ [raceD L rs]) (C ++ [ratD q]) S), .par (.lst (R ++ [raceD L rs])), .par (.lst (C ++ [ratD q])), .par (.lst S)] := rfl
  have N3 := ne_ev GS P3 rS
  have L3 : frzD (dB1 oLen (pk 3)) [.par (sessT (R ++ [raceD L rs]) (C ++ [ratD q]) S), .par (.lst (R ++ [raceD L rs])), .par (.lst (C ++ [ratD q])), .par (.lst S)] = .ok (.int S.length) [.par (sessT (R ++ [raceD L rs]) (C ++ [ratD q]) S), .par (.lst (R ++ [raceD L rs])), .par (.lst (C ++ [ratD q])), .par (.lst S)] := rfl
  have N4 := ne_ev GL L3 (e_eqD_i.trans (congrArg some (decide_eq_true rfl)))
  have T1 := (or_f E1).trans N2
  have T2 := (or_f N3).trans N4
  have A3 := appTmp_ok (d2 := dC .none) GS rfl (by omega : S.length < 1000000)
  have R4 := bn_ok GS P3 (eq_o rS)
  exact fn_rt ((seq_nx (ite_f T1)).trans ((seq_nx (ite_f T2)).trans ((seq_nx (expr_ok A3)).trans (seq_rt (ret_ok R4))))) rfl
end
def RsD (L : Rat) (hs : List (List NR × Rat)) : List D := hs.map fun e => raceD L e.1
def CsD (hs : List (List NR × Rat)) : List D := hs.map fun e => ratD e.2
/-- the history of a session -/
structure St (L : Rat) (rs0 : List NR) (hs : List (List NR × Rat)) (S : List D) : Prop where
  len : hs.length = S.length + 1
  e : ∀ i e, hs[i]? = some e → EOk L i e.1 ∧ 0 ≤ e.2 ∧ Sz (1 + 12 * i) e.2
  z : hs[0]? = some (rs0, 0)
  s : ∀ x ∈ S, EqOk 2 x
section
variable {L : Rat} {rs0 rs2 : List NR} {hs : List (List NR × Rat)} {e : List NR × Rat} {S : List D} {x : D} {q2 : Rat}
theorem EOk.mono {i : Nat} {rs : List NR} (h : EOk L i rs) : EOk L (i + 1) rs := ⟨h.h, fun r hr => ⟨(h.m r hr).1, (h.m r hr).2.1, Nat.le_trans (h.m r hr).2.2 (by omega)⟩, h.so⟩
theorem St.split (h : St L rs0 hs S) : ∃ hs0 e, hs = hs0 ++ [e] ∧ hs0.length = S.length ∧ EOk L S.length e.1 ∧ 0 ≤ e.2 ∧ Sz (1 + 12 * S.length) e.2 := by
  have ne : hs ≠ [] := fun z => by have := h.len; rw [z] at this; simp at this
  have e1 := List.dropLast_concat_getLast ne
  have ld : hs.dropLast.length = S.length := by rw [List.length_dropLast, h.len]; rfl
  refine ⟨hs.dropLast, hs.getLast ne, e1.symm, ld, h.e _ _ ?_⟩
  rw [List.getElem?_eq_getElem (by have := h.len; omega), List.getLast_eq_getElem]
  congr 2
  have := h.len; omega
theorem St.pop {hs0 : List (List NR × Rat)} {S0 : List D} (h : St L rs0 (hs0 ++ [e]) (S0 ++ [x])) : St L rs0 hs0 S0 := by
  have l := h.len
  simp only [List.length_append, List.length_singleton] at l
  refine ⟨by omega, fun i a ha => h.e i a ?_, ?_, fun y hy => h.s y (List.mem_append_left _ hy)⟩
  · rw [List.getElem?_append_left (List.getElem?_eq_some_iff.mp ha).1]; exact ha
  · have := h.z
    rw [List.getElem?_append_left (by omega)] at this; exact this
theorem eqOk_step {rs : List NR} {q : Rat} {i : Nat} (h : EOk L i rs) (st : StepTo L rs q x rs2 q2) : EqOk 2 x := by
  rcases st with ⟨g, _, _, rfl, _, _⟩ | ⟨r, hr, v, _, rfl, _, _⟩
  · refine EqOk.tup fun d hd => ?_
    simp only [List.mem_cons, List.not_mem_nil, or_false] at hd
    rcases hd with rfl | rfl
    · exact (EqOk.str (by kernel_rfl)).up (by decide)
    · exact eqOk_rat _
  · refine EqOk.tup fun d hd => ?_
    simp only [List.mem_cons, List.not_mem_nil, or_false] at hd
    rcases hd with rfl | rfl | rfl
    · exact (EqOk.str (by kernel_rfl)).up (by decide)
    · exact (EqOk.str (h.so r hr)).up (by decide)
    · exact eqOk_rat _
theorem St.push (hL : 0 < L) (h : St L rs0 hs S) {hs0 : List (List NR × Rat)} (eh : hs = hs0 ++ [e]) (hl : S.length ≤ 7) (st : StepTo L e.1 e.2 x rs2 q2) : St L rs0 (hs ++ [(rs2, q2)]) (S ++ [x]) := by
  have l := h.len
  have e1 : hs[S.length]? = some e := by
    have l0 : hs0.length = S.length := by rw [eh] at l; simpa using l
    rw [eh, List.getElem?_append_right (by omega), l0]; simp
  obtain ⟨b1, b2, b3⟩ := h.e _ _ e1
  refine ⟨by simp [l], fun i a ha => ?_, ?_, fun y hy => ?_⟩
  · by_cases hi : i < hs.length
    · rw [List.getElem?_append_left hi] at ha; exact h.e i a ha
    · rw [List.getElem?_append_right (by omega)] at ha
      have hi2 : i = S.length + 1 := by
        have := (List.getElem?_eq_some_iff.mp ha).1
        simp at this; omega
      subst hi2
      have ha : (rs2, q2) = a := by rw [l] at ha; simpa using ha
      subst ha
      rcases st with ⟨g, g0, sg, _, rfl, rfl⟩ | ⟨r, hr, v, sv, _, rfl, rfl⟩
      · exact ⟨b1.mono, Rat.le_trans b2 (by show e.2 ≤ e.2 + g; grind), (b3.add sg).up (by omega)⟩
      · exact ⟨chgR_ok b1 hr hL (by omega) (b3.up (by omega)) (sv.up (by decide)) b2, b2, b3.up (by omega)⟩
  · rw [List.getElem?_append_left (by omega)]; exact h.z
  · rcases List.mem_append.mp hy with z | z
    · exact h.s y z
    · rw [List.mem_singleton.mp z]; exact eqOk_step b1 st
end
end Pn

/-! one turn of the law -/
namespace Pn
open PySem Dn Cd Mq
theorem eqD_st {a b : Str} (ha : (PyData.str a).canLay0 = true) (hb : (PyData.str b).canLay0 = true) : eqD (.str a) (.str b) = some (decide (a = b)) := by
  unfold eqD
  have e1 : (D.str a).py = some (.str a) := rfl
  have e2 : (D.str b).py = some (.str b) := rfl
  rw [e1, e2]
  dsimp only
  rw [shaped_of ha (by simp [PyData.depth]), shaped_of hb (by simp [PyData.depth])]
  simp [PyData.eqv]; rfl
theorem lay_ad : (PyData.str "advance").canLay0 = true := by kernel_rfl
theorem lay_sp : (PyData.str "speed").canLay0 = true := by kernel_rfl
abbrev eL (v0 v1 v3 v8 v9 : Slot) (c s : Int) (R C S R2 C2 S2 : List D) : Ev := [v0, v1, .loc (poolT c s), v3, .loc (sessT R C S), .loc (.lst R2), .loc (.lst C2), .loc (.lst S2), v8, v9]
noncomputable section
def undoB : DS := dSeq (dIte (aB (dBn oNe (dMethO "Session" "undo" m_Session_undo F_Session_undo [] 4 rNil) (frzD (dPop 7 [])))) (dSeq (dRet (dC (.bool false))) (dSkip)) (dSkip)) (dSeq (dExpr (dPop 5 [])) (dSeq (dExpr (dPop 6 [])) (dSkip)))
def advB : DS := dSeq (dExpr (dMut appT 5 (dIxp 5 (frzD (dUn oNeg (frzD (dC (.int 1)))))))) (dSeq (dExpr (dMut appT 6 (dIxp 9 (frzD (dC (.int 1)))))) (dSkip))
def speB : DS := dSeq (dExpr (dMut appT 5 (dMethP "Race" "changed" F_Race_changed 4 [] (dIxp 5 (frzD (dUn oNeg (frzD (dC (.int 1)))))) (dCons (dIxp 9 (frzD (dC (.int 1)))) (dCons (dIxp 6 (frzD (dUn oNeg (frzD (dC (.int 1)))))) (dCons (dIxp 9 (frzD (dC (.int 2)))) (dNil))))))) (dSeq (dExpr (dMut appT 6 (dIxp 6 (frzD (dUn oNeg (frzD (dC (.int 1)))))))) (dSkip))
def stepB : DS := dSeq (dSet 9 (dCallO m__law_step F__law_step [] (rO 2 (rO 4 (rNil))))) (dSeq (dExpr (dMut appT 7 (dVar 9))) (dSeq (dIte (aB (dBn oEq (dIxp 9 (frzD (dC (.int 0)))) (frzD (dC (.str "advance"))))) advB speB) (dSkip)))
def sameB : DS := dIte (dNot (dTru (frzD (dCallO m__law_same F__law_same [] (rO 4 (rO 5 (rO 6 (rO 7 (rNil))))))))) (dSeq (dRet (dC (.bool false))) (dSkip)) (dSkip)
end
theorem law0_eq : c_law_0 = dSeq (dIte (dAnd (aB (dBp oNe 7 (frzD (dLst (dNil))))) (aB (dBn oEq (dCallO m__law_draw F__law_draw [] (rO 2 (rD (dC (.int 4)) (rNil)))) (frzD (dC (.int 0)))))) undoB stepB) (dSeq sameB dSkip) := rfl
section
variable {v0 v1 v3 v8 v9 : Slot} {R C S : List D} {r cq x y : D} {c s : Int} {i j a : Nat} {p q v L : Rat} {rs rs2 : List NR} {q2 : Rat}
theorem undo_c (hx : EqOk 2 x) : undoB (eL v0 v1 v3 v8 v9 c s (R ++ [r]) (C ++ [cq]) (S ++ [x]) (R ++ [r]) (C ++ [cq]) (S ++ [x])) = .ok .nx (eL v0 v1 v3 v8 v9 c s R C S R C S) := by
  have U1 : callO m_Session_undo F_Session_undo [] [.inr 4] (eL v0 v1 v3 v8 v9 c s (R ++ [r]) (C ++ [cq]) (S ++ [x]) (R ++ [r]) (C ++ [cq]) (S ++ [x])) = .ok (.d x) (eL v0 v1 v3 v8 v9 c s R C S (R ++ [r]) (C ++ [cq]) (S ++ [x])) :=
    callO_ok (ts := [sessT (R ++ [r]) (C ++ [cq]) (S ++ [x])]) rfl (by simp) rfl undo_ok rfl
  have M := methO_ok (C := "Session") (m := "undo") (ds := rNil) (map_m (i := 4) (env := eL v0 v1 v3 v8 v9 c s (R ++ [r]) (C ++ [cq]) (S ++ [x]) (R ++ [r]) (C ++ [cq]) (S ++ [x])) rfl (by decide +kernel)) rfl U1
  have P7 : dPop 7 [] (eL v0 v1 v3 v8 v9 c s R C S (R ++ [r]) (C ++ [cq]) (S ++ [x])) = .ok (.d x) (eL v0 v1 v3 v8 v9 c s R C S (R ++ [r]) (C ++ [cq]) S) := pop_ok rfl rfl
  have P5 : dPop 5 [] (eL v0 v1 v3 v8 v9 c s R C S (R ++ [r]) (C ++ [cq]) S) = .ok (.d r) (eL v0 v1 v3 v8 v9 c s R C S R (C ++ [cq]) S) := pop_ok rfl rfl
  have P6 : dPop 6 [] (eL v0 v1 v3 v8 v9 c s R C S R (C ++ [cq]) S) = .ok (.d cq) (eL v0 v1 v3 v8 v9 c s R C S R C S) := pop_ok rfl rfl
  have T := ne_ev M (frz_ok P7) (eqD_refl hx (by decide))
  unfold undoB
  exact (seq_nx (ite_f T)).trans ((seq_nx (expr_ok P5)).trans (seq_nx (expr_ok P6)))
theorem same_c (hS : ∀ x ∈ S, EqOk 2 x) (hl : S.length < 900) : sameB (eL v0 v1 v3 v8 v9 c s (R ++ [raceD L rs]) (C ++ [ratD q]) S (R ++ [raceD L rs]) (C ++ [ratD q]) S) = .ok .nx (eL v0 v1 v3 v8 v9 c s (R ++ [raceD L rs]) (C ++ [ratD q]) S (R ++ [raceD L rs]) (C ++ [ratD q]) S) := by
  have K : dCallO m__law_same F__law_same [] (rO 4 (rO 5 (rO 6 (rO 7 (rNil))))) (eL v0 v1 v3 v8 v9 c s (R ++ [raceD L rs]) (C ++ [ratD q]) S (R ++ [raceD L rs]) (C ++ [ratD q]) S) = .ok (.d (.bool true)) (eL v0 v1 v3 v8 v9 c s (R ++ [raceD L rs]) (C ++ [ratD q]) S (R ++ [raceD L rs]) (C ++ [ratD q]) S) :=
    dCallO_ok (as := [.inr 4, .inr 5, .inr 6, .inr 7]) rfl (callO_ok (ts := [sessT (R ++ [raceD L rs]) (C ++ [ratD q]) S, .lst (R ++ [raceD L rs]), .lst (C ++ [ratD q]), .lst S]) rfl (by simp) rfl (same_ok hS hl) rfl)
  unfold sameB
  exact ite_f (not_ok (b := true) (tru_ok (frz_ok K) rfl))
theorem step_c {hs0 : List (List NR × Rat)} {j : Nat} (hs : SdOk s) (f9 : isPar v9 = false) (h : EOk L j rs) (hL : 0 < L) (sL : Sz 100 L) (hj : j ≤ 8) (sq : Sz 95 q) (q0 : 0 ≤ q) (h1 : R.length < 900) (h2 : C.length < 900) (h3 : S.length < 900) :
    ∃ c' s' x rs2 q2, SdOk s' ∧ StepTo L rs q x rs2 q2 ∧ stepB (eL v0 v1 v3 v8 v9 c s (R ++ [raceD L rs]) (C ++ [ratD q]) S (R ++ [raceD L rs]) (C ++ [ratD q]) S) = .ok .nx (eL v0 v1 v3 v8 (.loc (.d x)) c' s' (R ++ [raceD L rs] ++ [raceD L rs2]) (C ++ [ratD q] ++ [ratD q2]) (S ++ [x]) (R ++ [raceD L rs] ++ [raceD L rs2]) (C ++ [ratD q] ++ [ratD q2]) (S ++ [x])) := by
  obtain ⟨c', s', x, rs2, q2, k, st, e⟩ := law_step_ok (c := c) (R := R) (C := C) (S := S) hs h hL sL hj sq q0 h1 h2 h3
  refine ⟨c', s', x, rs2, q2, k, st, ?_⟩
  have e9 : dCallO m__law_step F__law_step [] (rO 2 (rO 4 (rNil))) (eL v0 v1 v3 v8 v9 c s (R ++ [raceD L rs]) (C ++ [ratD q]) S (R ++ [raceD L rs]) (C ++ [ratD q]) S) = .ok (.d x) (eL v0 v1 v3 v8 v9 c' s' (R ++ [raceD L rs] ++ [raceD L rs2]) (C ++ [ratD q] ++ [ratD q2]) (S ++ [x]) (R ++ [raceD L rs]) (C ++ [ratD q]) S) :=
    dCallO_ok (as := [.inr 2, .inr 4]) rfl (callO_ok (ts := [poolT c s, sessT (R ++ [raceD L rs]) (C ++ [ratD q]) S]) rfl (by simp) rfl e rfl)
  have A9 : dSet 9 (dCallO m__law_step F__law_step [] (rO 2 (rO 4 (rNil)))) (eL v0 v1 v3 v8 v9 c s (R ++ [raceD L rs]) (C ++ [ratD q]) S (R ++ [raceD L rs]) (C ++ [ratD q]) S) = .ok .nx (eL v0 v1 v3 v8 (.loc (.d x)) c' s' (R ++ [raceD L rs] ++ [raceD L rs2]) (C ++ [ratD q] ++ [ratD q2]) (S ++ [x]) (R ++ [raceD L rs]) (C ++ [ratD q]) S) := by
    exact set_ok e9 (by simp [f9])
  have A7 : dMut appT 7 (dVar 9) (eL v0 v1 v3 v8 (.loc (.d x)) c' s' (R ++ [raceD L rs] ++ [raceD L rs2]) (C ++ [ratD q] ++ [ratD q2]) (S ++ [x]) (R ++ [raceD L rs]) (C ++ [ratD q]) S) = .ok (.d .none) (eL v0 v1 v3 v8 (.loc (.d x)) c' s' (R ++ [raceD L rs] ++ [raceD L rs2]) (C ++ [ratD q] ++ [ratD q2]) (S ++ [x]) (R ++ [raceD L rs]) (C ++ [ratD q]) (S ++ [x])) :=
    app_ok (t' := .lst S) (ds := S) rfl rfl (vr rfl) rfl (by omega) rfl
  have I5 : ∀ x : D, dIxp 5 (frzD (dUn oNeg (frzD (dC (.int 1))))) (eL v0 v1 v3 v8 (.loc (.d x)) c' s' (R ++ [raceD L rs] ++ [raceD L rs2]) (C ++ [ratD q] ++ [ratD q2]) (S ++ [x]) (R ++ [raceD L rs]) (C ++ [ratD q]) (S ++ [x])) = .ok (.d (raceD L rs)) (eL v0 v1 v3 v8 (.loc (.d x)) c' s' (R ++ [raceD L rs] ++ [raceD L rs2]) (C ++ [ratD q] ++ [ratD q2]) (S ++ [x]) (R ++ [raceD L rs]) (C ++ [ratD q]) (S ++ [x])) := fun x => ixp_ok rfl (m1_ev _) rfl (last_ix (C := R))
  have l1 : (R ++ [raceD L rs]).length < 1000000 := by simp; omega
  have l2 : (C ++ [ratD q]).length < 1000000 := by simp; omega
  unfold stepB
  rcases st with ⟨g, g0, sg, rfl, rfl, rfl⟩ | ⟨rr, hr, v, sv, rfl, rfl, rfl⟩
  · have T : aB (dBn oEq (dIxp 9 (frzD (dC (.int 0)))) (frzD (dC (.str "advance")))) (eL v0 v1 v3 v8 (.loc (.d (.tup [.str "advance", ratD (q + g)]))) c' s' (R ++ [raceD L rs2] ++ [raceD L rs2]) (C ++ [ratD q] ++ [ratD (q + g)]) (S ++ [.tup [.str "advance", ratD (q + g)]]) (R ++ [raceD L rs2]) (C ++ [ratD q]) (S ++ [.tup [.str "advance", ratD (q + g)]])) = .ok true (eL v0 v1 v3 v8 (.loc (.d (.tup [.str "advance", ratD (q + g)]))) c' s' (R ++ [raceD L rs2] ++ [raceD L rs2]) (C ++ [ratD q] ++ [ratD (q + g)]) (S ++ [.tup [.str "advance", ratD (q + g)]]) (R ++ [raceD L rs2]) (C ++ [ratD q]) (S ++ [.tup [.str "advance", ratD (q + g)]])) :=
      eq_ev (ixp_ok (t := .d (.tup [.str "advance", ratD (q + g)])) rfl rfl rfl e_at_0) rfl ((eqD_st lay_ad lay_ad).trans (congrArg some (decide_eq_true rfl)))
    have M5 : dMut appT 5 (dIxp 5 (frzD (dUn oNeg (frzD (dC (.int 1)))))) (eL v0 v1 v3 v8 (.loc (.d (.tup [.str "advance", ratD (q + g)]))) c' s' (R ++ [raceD L rs2] ++ [raceD L rs2]) (C ++ [ratD q] ++ [ratD (q + g)]) (S ++ [.tup [.str "advance", ratD (q + g)]]) (R ++ [raceD L rs2]) (C ++ [ratD q]) (S ++ [.tup [.str "advance", ratD (q + g)]])) = .ok (.d .none) (eL v0 v1 v3 v8 (.loc (.d (.tup [.str "advance", ratD (q + g)]))) c' s' (R ++ [raceD L rs2] ++ [raceD L rs2]) (C ++ [ratD q] ++ [ratD (q + g)]) (S ++ [.tup [.str "advance", ratD (q + g)]]) (R ++ [raceD L rs2] ++ [raceD L rs2]) (C ++ [ratD q]) (S ++ [.tup [.str "advance", ratD (q + g)]])) :=
      app_ok (t' := .lst (R ++ [raceD L rs2])) (ds := R ++ [raceD L rs2]) rfl rfl (I5 _) rfl l1 rfl
    have J6 : dIxp 9 (frzD (dC (.int 1))) (eL v0 v1 v3 v8 (.loc (.d (.tup [.str "advance", ratD (q + g)]))) c' s' (R ++ [raceD L rs2] ++ [raceD L rs2]) (C ++ [ratD q] ++ [ratD (q + g)]) (S ++ [.tup [.str "advance", ratD (q + g)]]) (R ++ [raceD L rs2] ++ [raceD L rs2]) (C ++ [ratD q]) (S ++ [.tup [.str "advance", ratD (q + g)]])) = .ok (.d (ratD (q + g))) (eL v0 v1 v3 v8 (.loc (.d (.tup [.str "advance", ratD (q + g)]))) c' s' (R ++ [raceD L rs2] ++ [raceD L rs2]) (C ++ [ratD q] ++ [ratD (q + g)]) (S ++ [.tup [.str "advance", ratD (q + g)]]) (R ++ [raceD L rs2] ++ [raceD L rs2]) (C ++ [ratD q]) (S ++ [.tup [.str "advance", ratD (q + g)]])) :=
      ixp_ok (t := .d (.tup [.str "advance", ratD (q + g)])) rfl rfl rfl e_at_1
    have M6 : dMut appT 6 (dIxp 9 (frzD (dC (.int 1)))) (eL v0 v1 v3 v8 (.loc (.d (.tup [.str "advance", ratD (q + g)]))) c' s' (R ++ [raceD L rs2] ++ [raceD L rs2]) (C ++ [ratD q] ++ [ratD (q + g)]) (S ++ [.tup [.str "advance", ratD (q + g)]]) (R ++ [raceD L rs2] ++ [raceD L rs2]) (C ++ [ratD q]) (S ++ [.tup [.str "advance", ratD (q + g)]])) = .ok (.d .none) (eL v0 v1 v3 v8 (.loc (.d (.tup [.str "advance", ratD (q + g)]))) c' s' (R ++ [raceD L rs2] ++ [raceD L rs2]) (C ++ [ratD q] ++ [ratD (q + g)]) (S ++ [.tup [.str "advance", ratD (q + g)]]) (R ++ [raceD L rs2] ++ [raceD L rs2]) (C ++ [ratD q] ++ [ratD (q + g)]) (S ++ [.tup [.str "advance", ratD (q + g)]])) :=
      app_ok (t' := .lst (C ++ [ratD q])) (ds := C ++ [ratD q]) rfl rfl J6 rfl l2 rfl
    have B : advB _ = _ := (seq_nx (expr_ok M5)).trans (seq_nx (expr_ok M6))
    exact (seq_nx A9).trans ((seq_nx (expr_ok A7)).trans (seq_nx ((ite_t T).trans B)))
  · have T : aB (dBn oEq (dIxp 9 (frzD (dC (.int 0)))) (frzD (dC (.str "advance")))) (eL v0 v1 v3 v8 (.loc (.d (.tup [.str "speed", .str rr.1, ratD v]))) c' s' (R ++ [raceD L rs] ++ [raceD L (chgR L rr q2 v rs)]) (C ++ [ratD q2] ++ [ratD q2]) (S ++ [.tup [.str "speed", .str rr.1, ratD v]]) (R ++ [raceD L rs]) (C ++ [ratD q2]) (S ++ [.tup [.str "speed", .str rr.1, ratD v]])) = .ok false (eL v0 v1 v3 v8 (.loc (.d (.tup [.str "speed", .str rr.1, ratD v]))) c' s' (R ++ [raceD L rs] ++ [raceD L (chgR L rr q2 v rs)]) (C ++ [ratD q2] ++ [ratD q2]) (S ++ [.tup [.str "speed", .str rr.1, ratD v]]) (R ++ [raceD L rs]) (C ++ [ratD q2]) (S ++ [.tup [.str "speed", .str rr.1, ratD v]])) :=
      eq_ev (ixp_ok (t := .d (.tup [.str "speed", .str rr.1, ratD v])) rfl rfl rfl e_at_0) rfl ((eqD_st lay_sp lay_ad).trans (congrArg some (decide_eq_false (by decide +kernel))))
    have ch := changed_ok h hr hL sL hj (NumD.rat q2) (sq.up (by decide)) q0 (NumD.rat v) (sv.up (by decide))
    have X1 : dIxp 9 (frzD (dC (.int 1))) (eL v0 v1 v3 v8 (.loc (.d (.tup [.str "speed", .str rr.1, ratD v]))) c' s' (R ++ [raceD L rs] ++ [raceD L (chgR L rr q2 v rs)]) (C ++ [ratD q2] ++ [ratD q2]) (S ++ [.tup [.str "speed", .str rr.1, ratD v]]) (R ++ [raceD L rs]) (C ++ [ratD q2]) (S ++ [.tup [.str "speed", .str rr.1, ratD v]])) = .ok (.d (.str rr.1)) (eL v0 v1 v3 v8 (.loc (.d (.tup [.str "speed", .str rr.1, ratD v]))) c' s' (R ++ [raceD L rs] ++ [raceD L (chgR L rr q2 v rs)]) (C ++ [ratD q2] ++ [ratD q2]) (S ++ [.tup [.str "speed", .str rr.1, ratD v]]) (R ++ [raceD L rs]) (C ++ [ratD q2]) (S ++ [.tup [.str "speed", .str rr.1, ratD v]])) := ixp_ok (t := .d (.tup [.str "speed", .str rr.1, ratD v])) rfl rfl rfl e_at_1
    have X2 : dIxp 9 (frzD (dC (.int 2))) (eL v0 v1 v3 v8 (.loc (.d (.tup [.str "speed", .str rr.1, ratD v]))) c' s' (R ++ [raceD L rs] ++ [raceD L (chgR L rr q2 v rs)]) (C ++ [ratD q2] ++ [ratD q2]) (S ++ [.tup [.str "speed", .str rr.1, ratD v]]) (R ++ [raceD L rs]) (C ++ [ratD q2]) (S ++ [.tup [.str "speed", .str rr.1, ratD v]])) = .ok (.d (ratD v)) (eL v0 v1 v3 v8 (.loc (.d (.tup [.str "speed", .str rr.1, ratD v]))) c' s' (R ++ [raceD L rs] ++ [raceD L (chgR L rr q2 v rs)]) (C ++ [ratD q2] ++ [ratD q2]) (S ++ [.tup [.str "speed", .str rr.1, ratD v]]) (R ++ [raceD L rs]) (C ++ [ratD q2]) (S ++ [.tup [.str "speed", .str rr.1, ratD v]])) := ixp_ok (t := .d (.tup [.str "speed", .str rr.1, ratD v])) rfl rfl rfl rfl
    have X6 : ∀ R2 : List D, dIxp 6 (frzD (dUn oNeg (frzD (dC (.int 1))))) (eL v0 v1 v3 v8 (.loc (.d (.tup [.str "speed", .str rr.1, ratD v]))) c' s' (R ++ [raceD L rs] ++ [raceD L (chgR L rr q2 v rs)]) (C ++ [ratD q2] ++ [ratD q2]) (S ++ [.tup [.str "speed", .str rr.1, ratD v]]) R2 (C ++ [ratD q2]) (S ++ [.tup [.str "speed", .str rr.1, ratD v]])) = .ok (.d (ratD q2)) (eL v0 v1 v3 v8 (.loc (.d (.tup [.str "speed", .str rr.1, ratD v]))) c' s' (R ++ [raceD L rs] ++ [raceD L (chgR L rr q2 v rs)]) (C ++ [ratD q2] ++ [ratD q2]) (S ++ [.tup [.str "speed", .str rr.1, ratD v]]) R2 (C ++ [ratD q2]) (S ++ [.tup [.str "speed", .str rr.1, ratD v]])) := fun R2 => ixp_ok rfl (m1_ev _) rfl (last_ix (C := C))
    have MC := meth_ev (n := 4) (C := "Race") (m := "changed") (I5 _) (cons_ok X1 (cons_ok (X6 _) (cons_ok X2 nil_ok))) (instOk_race "changed" (by decide +kernel)) (callP_ok rfl ch)
    have M5 := app_ok (i := 5) (t' := .lst (R ++ [raceD L rs])) (ds := R ++ [raceD L rs]) rfl rfl MC rfl l1 rfl
    have M6 := app_ok (i := 6) (t' := .lst (C ++ [ratD q2])) (ds := C ++ [ratD q2]) rfl rfl (X6 (R ++ [raceD L rs] ++ [raceD L (chgR L rr q2 v rs)])) rfl l2 rfl
    have B : speB _ = _ := (seq_nx (expr_ok M5)).trans (seq_nx (expr_ok M6))
    exact (seq_nx A9).trans ((seq_nx (expr_ok A7)).trans (seq_nx ((ite_f T).trans B)))
end
end Pn

/-! the loops of the law -/
namespace Pn
open PySem Dn Cd Mq
theorem loop_inv {α : Type} {g : D → Ev → Option Ev} {bd : DS} {h : α → D} {P : Ev → Prop} : ∀ {ys : List α} {env : Ev}, (∀ y ∈ ys, ∀ env, P env → ∃ e1 e2, g (h y) env = some e1 ∧ bd e1 = .ok .nx e2 ∧ P e2) → P env → ∃ e', forL g bd (ys.map h) env = .ok .nx e' ∧ P e'
  | [], env, _, p => ⟨env, rfl, p⟩
  | y :: ys, env, s, p => by
    obtain ⟨e1, e2, h1, h2, p2⟩ := s y List.mem_cons_self env p
    obtain ⟨e', h3, p3⟩ := loop_inv (ys := ys) (fun z hz => s z (List.mem_cons_of_mem _ hz)) p2
    exact ⟨e', by rw [List.map_cons, for_step h1 h2]; exact h3, p3⟩
section
variable {v0 v1 v3 v8 v9 : Slot} {c s : Int} {L : Rat} {rs rs0 : List NR} {hs : List (List NR × Rat)} {S R2 C2 S2 : List D}
theorem RsD_s {e : List NR × Rat} : RsD L (hs ++ [e]) = RsD L hs ++ [raceD L e.1] := by unfold RsD; rw [List.map_append]; rfl
theorem CsD_s {e : List NR × Rat} : CsD (hs ++ [e]) = CsD hs ++ [ratD e.2] := by unfold CsD; rw [List.map_append]; rfl
theorem RsD_l : (RsD L hs).length = hs.length := List.length_map _
theorem CsD_l : (CsD hs).length = hs.length := List.length_map _
abbrev eH (v0 v1 v3 v8 v9 : Slot) (c s : Int) (L : Rat) (hs : List (List NR × Rat)) (S : List D) : Ev := eL v0 v1 v3 v8 v9 c s (RsD L hs) (CsD hs) S (RsD L hs) (CsD hs) S
theorem turn_ok (hL : 0 < L) (sL : Sz 100 L) (ks : SdOk s) (f9 : isPar v9 = false) (h : St L rs0 hs S) (hl : S.length ≤ 7) : ∃ c' s' hs' S' v9', SdOk s' ∧ isPar v9' = false ∧ St L rs0 hs' S' ∧ S'.length ≤ S.length + 1 ∧ c_law_0 (eH v0 v1 v3 v8 v9 c s L hs S) = .ok .nx (eH v0 v1 v3 v8 v9' c' s' L hs' S') := by
  rw [law0_eq]
  have stp : ∀ c s, SdOk s → ∃ c' s' hs' S' v9', SdOk s' ∧ isPar v9' = false ∧ St L rs0 hs' S' ∧ S'.length ≤ S.length + 1 ∧ dSeq stepB (dSeq sameB dSkip) (eH v0 v1 v3 v8 v9 c s L hs S) = .ok .nx (eH v0 v1 v3 v8 v9' c' s' L hs' S') := fun c s ks => by
    obtain ⟨hs0, e, eh, l0, b1, b2, b3⟩ := h.split
    have eR : RsD L hs = RsD L hs0 ++ [raceD L e.1] := by rw [eh, RsD_s]
    have eC : CsD hs = CsD hs0 ++ [ratD e.2] := by rw [eh, CsD_s]
    obtain ⟨c', s', x, rs2, q2, k, st, ex⟩ := step_c (v0 := v0) (v1 := v1) (v3 := v3) (v8 := v8) (R := RsD L hs0) (C := CsD hs0) (S := S) (c := c) (hs0 := hs0) ks f9 b1 hL sL (by omega) (b3.up (by omega)) b2 (by rw [RsD_l]; omega) (by rw [CsD_l]; omega) (by omega)
    have h2 := h.push hL eh hl st
    have sm := same_c (v0 := v0) (v1 := v1) (v3 := v3) (v8 := v8) (v9 := .loc (.d x)) (c := c') (s := s') (R := RsD L hs) (C := CsD hs) (S := S ++ [x]) (L := L) (rs := rs2) (q := q2) h2.s (by simp; omega)
    refine ⟨c', s', hs ++ [(rs2, q2)], S ++ [x], .loc (.d x), k, rfl, h2, by simp, ?_⟩
    rw [eR, eC] at sm
    show dSeq stepB (dSeq sameB dSkip) (eL v0 v1 v3 v8 v9 c s (RsD L hs) (CsD hs) S (RsD L hs) (CsD hs) S) = .ok .nx (eL v0 v1 v3 v8 _ c' s' (RsD L (hs ++ [(rs2, q2)])) (CsD (hs ++ [(rs2, q2)])) (S ++ [x]) (RsD L (hs ++ [(rs2, q2)])) (CsD (hs ++ [(rs2, q2)])) (S ++ [x]))
    rw [RsD_s, CsD_s, eR, eC]
    exact (seq_nx ex).trans ((seq_nx sm).trans rfl)
  have P7 : pk 7 (eH v0 v1 v3 v8 v9 c s L hs S) = .ok (.list S) (eH v0 v1 v3 v8 v9 c s L hs S) := rfl
  rcases List.eq_nil_or_concat S with z | ⟨S0, x, z⟩
  · have T1 : aB (dBp oNe 7 (frzD (dLst (dNil)))) (eH v0 v1 v3 v8 v9 c s L hs S) = .ok false (eH v0 v1 v3 v8 v9 c s L hs S) := by
      subst z
      exact aB_ok (bp_ok (t := .lst []) rfl rfl rfl (ne_o (eqD_refl (EqOk.list (n := 0) fun d hd => by cases hd) (by decide))))
    obtain ⟨c', s', hs', S', v9', a1, a2, a3, a4, a5⟩ := stp c s ks
    refine ⟨c', s', hs', S', v9', a1, a2, a3, a4, ?_⟩
    rw [← a5, e_dSeq, ite_f (and_f T1), e_dSeq]
  · have z : S = S0 ++ [x] := by rw [z, List.concat_eq_append]
    have T1 : aB (dBp oNe 7 (frzD (dLst (dNil)))) (eH v0 v1 v3 v8 v9 c s L hs S) = .ok true (eH v0 v1 v3 v8 v9 c s L hs S) := by
      obtain ⟨y, ys, ey⟩ : ∃ y ys, S = y :: ys := by
        cases S with
        | nil => simp at z
        | cons a b => exact ⟨a, b, rfl⟩
      subst ey
      exact aB_ok (bp_ok (t := .lst (y :: ys)) rfl rfl rfl (ne_o (eqD_nil (EqOk.list h.s) (by decide))))
    obtain ⟨v, c1, s1, k1, b1, b2, ed⟩ := draw_c (c := c) (m := 4) ks (by decide) (by decide)
    have ed := ed (eH v0 v1 v3 v8 v9 c s L hs S) 2 rfl
    have T2 : aB (dBn oEq (dCallO m__law_draw F__law_draw [] (rO 2 (rD (dC (.int 4)) (rNil)))) (frzD (dC (.int 0)))) (eH v0 v1 v3 v8 v9 c s L hs S) = .ok (decide (v = 0)) (eH v0 v1 v3 v8 v9 c1 s1 L hs S) := eq_ev ed rfl e_eqD_i
    by_cases hv : v = 0
    · rw [decide_eq_true hv] at T2
      obtain ⟨hs0, e, eh, l0, b1, b2, b3⟩ := h.split
      have hp : St L rs0 hs0 S0 := St.pop (e := e) (x := x) (by rw [← eh, ← z]; exact h)
      have eR : RsD L hs = RsD L hs0 ++ [raceD L e.1] := by rw [eh, RsD_s]
      have eC : CsD hs = CsD hs0 ++ [ratD e.2] := by rw [eh, CsD_s]
      have l9 : S0.length + 1 = S.length := by rw [z]; simp
      have U := undo_c (v0 := v0) (v1 := v1) (v3 := v3) (v8 := v8) (v9 := v9) (c := c1) (s := s1) (R := RsD L hs0) (C := CsD hs0) (S := S0) (r := raceD L e.1) (cq := ratD e.2) (h.s x (by rw [z]; simp))
      have U : undoB (eH v0 v1 v3 v8 v9 c1 s1 L hs S) = .ok .nx (eH v0 v1 v3 v8 v9 c1 s1 L hs0 S0) := by
        show undoB (eL v0 v1 v3 v8 v9 c1 s1 (RsD L hs) (CsD hs) S (RsD L hs) (CsD hs) S) = _
        rw [eR, eC, z]; exact U
      obtain ⟨hs1, e1, eh1, _, _, _, _⟩ := hp.split
      have sm : sameB (eH v0 v1 v3 v8 v9 c1 s1 L hs0 S0) = .ok .nx (eH v0 v1 v3 v8 v9 c1 s1 L hs0 S0) := by
        have := same_c (v0 := v0) (v1 := v1) (v3 := v3) (v8 := v8) (v9 := v9) (c := c1) (s := s1) (R := RsD L hs1) (C := CsD hs1) (S := S0) (L := L) (rs := e1.1) (q := e1.2) hp.s (by omega)
        show sameB (eL v0 v1 v3 v8 v9 c1 s1 (RsD L hs0) (CsD hs0) S0 (RsD L hs0) (CsD hs0) S0) = .ok .nx (eL v0 v1 v3 v8 v9 c1 s1 (RsD L hs0) (CsD hs0) S0 (RsD L hs0) (CsD hs0) S0)
        rw [eh1, RsD_s, CsD_s]; exact this
      refine ⟨c1, s1, hs0, S0, v9, k1, f9, hp, by omega, ?_⟩
      exact (seq_nx ((ite_t ((and_t T1).trans T2)).trans U)).trans ((seq_nx sm).trans rfl)
    · rw [decide_eq_false hv] at T2
      obtain ⟨c', s', hs', S', v9', a1, a2, a3, a4, a5⟩ := stp c1 s1 k1
      refine ⟨c', s', hs', S', v9', a1, a2, a3, a4, ?_⟩
      rw [← a5, e_dSeq, ite_f ((and_t T1).trans T2), e_dSeq]
theorem turns_ok (hL : 0 < L) (sL : Sz 100 L) : ∀ (is : List D) (v8 v9 : Slot) (c s : Int) (hs : List (List NR × Rat)) (S : List D), SdOk s → isPar v8 = false → isPar v9 = false → St L rs0 hs S → S.length + is.length ≤ 8 → ∃ v8' v9' c' s' hs' S', isPar v8' = false ∧ isPar v9' = false ∧ St L rs0 hs' S' ∧ S'.length ≤ 8 ∧ forL (gNm 8) c_law_0 is (eH v0 v1 v3 v8 v9 c s L hs S) = .ok .nx (eH v0 v1 v3 v8' v9' c' s' L hs' S')
  | [], v8, v9, c, s, hs, S, _, f8, f9, h, hl => ⟨v8, v9, c, s, hs, S, f8, f9, h, hl, rfl⟩
  | d :: is, v8, v9, c, s, hs, S, ks, f8, f9, h, hl => by
    rw [List.length_cons] at hl
    obtain ⟨c1, s1, hs1, S1, w9, k1, g9, h1, l1, e1⟩ := turn_ok (v0 := v0) (v1 := v1) (v3 := v3) (v8 := .loc (.d d)) (c := c) hL sL ks f9 h (by omega)
    obtain ⟨v8', v9', c', s', hs', S', a1, a2, a3, a4, a5⟩ := turns_ok hL sL is (.loc (.d d)) w9 c1 s1 hs1 S1 k1 rfl g9 h1 (by omega)
    refine ⟨v8', v9', c', s', hs', S', a1, a2, a3, a4, ?_⟩
    rw [← a5]
    exact for_step (by simp [f8]) e1
theorem while_ok : ∀ (n : Nat) (hs : List (List NR × Rat)) (S : List D), S.length = n → n ≤ 8 → St L rs0 hs S → dWhile (aB (dBn oGt (dLenOO "Session" F_Session___len__ 4) (frzD (dC (.int 0))))) (c_law_1) (eL v0 v1 v3 v8 v9 c s (RsD L hs) (CsD hs) S R2 C2 S2) = .ok .nx (eL v0 v1 v3 v8 v9 c s [raceD L rs0] [ratD 0] [] R2 C2 S2)
  | 0, hs, S, hn, hl, h => by
    have z : S = [] := List.length_eq_zero_iff.mp hn
    subst z
    have l1 : hs.length = 1 := h.len
    obtain ⟨e, rfl⟩ := List.length_eq_one_iff.mp l1
    have ee : e = (rs0, 0) := by have := h.z; simpa using this
    subst ee
    have G : dLenOO "Session" F_Session___len__ 4 (eL v0 v1 v3 v8 v9 c s (RsD L [(rs0, 0)]) (CsD [(rs0, 0)]) [] R2 C2 S2) = .ok (.d (.int 0)) _ := g_len (S := []) rfl (by decide)
    exact dWhile_stop (aB_ok (bn_ok G rfl e_gt_i))
  | n + 1, hs, S, hn, hl, h => by
    rcases List.eq_nil_or_concat S with z | ⟨S0, x, z⟩
    · rw [z] at hn; cases hn
    have z : S = S0 ++ [x] := by rw [z, List.concat_eq_append]
    obtain ⟨hs0, e, eh, l0, b1, b2, b3⟩ := h.split
    have hp : St L rs0 hs0 S0 := St.pop (e := e) (x := x) (by rw [← eh, ← z]; exact h)
    have l9 : S0.length = n := by rw [z] at hn; simpa using hn
    have ih := while_ok n hs0 S0 l9 (by omega) hp
    rw [← ih]
    have G : dLenOO "Session" F_Session___len__ 4 (eL v0 v1 v3 v8 v9 c s (RsD L hs) (CsD hs) S R2 C2 S2) = .ok (.d (.int S.length)) _ := g_len (S := S) rfl (by omega)
    have T : aB (dBn oGt (dLenOO "Session" F_Session___len__ 4) (frzD (dC (.int 0)))) (eL v0 v1 v3 v8 v9 c s (RsD L hs) (CsD hs) S R2 C2 S2) = .ok true (eL v0 v1 v3 v8 v9 c s (RsD L hs) (CsD hs) S R2 C2 S2) := by
      have := aB_ok (bn_ok (dv := frzD (dC (.int 0))) (y := .int 0) G rfl e_gt_i)
      rw [this, decide_eq_true (by omega : (0 : Int) < (S.length : Int))]
    refine dWhile_step T ?_
    rw [eh, RsD_s, CsD_s, z]
    have U1 : callO m_Session_undo F_Session_undo [] [.inr 4] (eL v0 v1 v3 v8 v9 c s (RsD L hs0 ++ [raceD L e.1]) (CsD hs0 ++ [ratD e.2]) (S0 ++ [x]) R2 C2 S2) = .ok (.d x) (eL v0 v1 v3 v8 v9 c s (RsD L hs0) (CsD hs0) S0 R2 C2 S2) :=
      callO_ok (ts := [sessT (RsD L hs0 ++ [raceD L e.1]) (CsD hs0 ++ [ratD e.2]) (S0 ++ [x])]) rfl (by simp) rfl undo_ok rfl
    have M := methO_ok (C := "Session") (m := "undo") (ds := rNil) (map_m (i := 4) (env := eL v0 v1 v3 v8 v9 c s (RsD L hs0 ++ [raceD L e.1]) (CsD hs0 ++ [ratD e.2]) (S0 ++ [x]) R2 C2 S2) rfl (by decide +kernel)) rfl U1
    unfold c_law_1
    exact (seq_nx (expr_ok M)).trans rfl
end
/-! the first race -/
def nrmR (L : Rat) (rs : List NR) : List NR := rs.map fun r => (r.1, nrm L r.2)
theorem nrmR_d {L : Rat} (hL : 0 < L) (rs : List NR) : raceD L (nrmR L rs) = raceD L rs := by
  have e1 : keysR (nrmR L rs) = keysR rs := by unfold keysR nrmR; rw [List.map_map]; rfl
  have e2 : runsK L (nrmR L rs) = runsK L rs := by
    unfold runsK nrmR
    rw [List.map_map]
    exact List.map_congr_left fun r _ => nrm_run hL r.2
  unfold raceD runsD
  rw [e1, e2]
theorem nrmR_ok {L : Rat} (hL : 0 < L) (sL : Sz 10 L) {rs : List NR} (h : RsOk 10 rs) (m : ∀ r ∈ rs, r.2.ps.length ≤ 3 ∧ (PyData.str r.1).canLay0 = true) : EOk L 0 (nrmR L rs) := by
  have nm : (nrmR L rs).map (·.1) = rs.map (·.1) := by unfold nrmR; rw [List.map_map]; rfl
  have par : ∀ q ∈ nrmR L rs, ∃ q0 ∈ rs, q.1 = q0.1 ∧ q.2 = nrm L q0.2 := fun q hq => by
    obtain ⟨q0, h0, rfl⟩ := List.mem_map.mp hq
    exact ⟨q0, h0, rfl, rfl⟩
  refine ⟨⟨fun q hq => ?_, fun q hq => ?_, fun z => h.ne (List.map_eq_nil_iff.mp z), by unfold nrmR; rw [List.length_map]; exact h.few, nm ▸ h.srt, nm ▸ h.nd⟩, fun q hq => ?_, fun q hq => ?_⟩
  · obtain ⟨q0, h0, e, _⟩ := par q hq
    rw [e]; exact h.nm q0 h0
  · obtain ⟨q0, h0, e, e2⟩ := par q hq
    rw [e2]
    have ok := (h.ok q0 h0).ok
    have p2 := nrm_pcs ok
    refine ⟨NumD.rat _, (rem_sz2 (h.ok q0 h0).st sL hL).up (by decide), ⟨fun p hp => ?_, p2.ne, p2.few, p2.h0, p2.inc, p2.nn⟩⟩
    have := p2.ok p hp
    exact ⟨this.hx, this.hy, this.st.up (by decide), this.ss.up (by decide)⟩
  · obtain ⟨q0, h0, e, e2⟩ := par q hq
    rw [e2]
    refine ⟨rem_nonneg _ hL, rem_lt _ hL, ?_⟩
    show (q0.2.ps.map nrmP).length ≤ _
    rw [List.length_map]
    exact (m q0 h0).1
  · obtain ⟨q0, h0, e, _⟩ := par q hq
    rw [e]; exact (m q0 h0).2
theorem St.start {L : Rat} {rs : List NR} (h : EOk L 0 rs) : St L rs [(rs, 0)] [] := by
  refine ⟨rfl, fun i e he => ?_, rfl, fun x hx => by cases hx⟩
  have hi : i = 0 := by have := (List.getElem?_eq_some_iff.mp he).1; simp at this; exact this
  subst hi
  have he : (rs, (0 : Rat)) = e := by simpa using he
  subst he
  exact ⟨h, Rat.le_refl, zero_sz⟩
end Pn

/-! k24: one turn of the outer loop, the law -/
namespace Pn
open PySem Dn Cd Mq
theorem r0 : ratD 0 = .tup [.int 0, .int 1] := by unfold ratD; simp
def fr24 (v0 : Slot) (e : Ev) : Prop := ∃ v1 v2 v3 v4 v5 v6 v7 v8 v9, isPar v1 = false ∧ isPar v2 = false ∧ isPar v3 = false ∧ isPar v4 = false ∧ isPar v5 = false ∧ isPar v6 = false ∧ isPar v7 = false ∧ isPar v8 = false ∧ isPar v9 = false ∧ e = [v0, v1, v2, v3, v4, v5, v6, v7, v8, v9]
theorem outer_ok (ns : List Int) {k : Nat} (hk : k < 8) {e : Ev} (he : fr24 (.loc (.d (.scr ns))) e) : ∃ e1 e2, gNm 1 (.int k) e = some e1 ∧ c_law_2 e1 = .ok .nx e2 ∧ fr24 (.loc (.d (.scr ns))) e2 := by
  obtain ⟨v1, v2, v3, v4, v5, v6, v7, v8, v9, f1, f2, f3, f4, f5, f6, f7, f8, f9, rfl⟩ := he
  obtain ⟨c, s, hs, ep⟩ := pool_ok ns hk
  obtain ⟨v, c1, s1, k1, a1, b1, e1⟩ := draw_ok (c := c) (m := 3) hs (by decide) (by decide)
  obtain ⟨L, rs, c2, s2, k2, ⟨R, R3⟩, few, sL, pL, er⟩ := law_race_ok3 (c := c1) (m := 1 + v) k1 (by omega) (by omega)
  have E0 := nrmR_ok pL sL R R3
  have h0 := St.start E0
  have sL2 : Sz 100 L := sL.up (by decide)
  have eD := nrmR_d pL rs
  have S1 : dSet 2 (dCallP F__law_pool 2 [] (dCons (dVar 0) (dCons (dVar 1) (dNil)))) [.loc (.d (.scr ns)), .loc (.d (.int k)), v2, v3, v4, v5, v6, v7, v8, v9] = .ok .nx [.loc (.d (.scr ns)), .loc (.d (.int k)), .loc (poolT c s), v3, v4, v5, v6, v7, v8, v9] := by
    simp [ep, f2]
  have S2 : dSet 3 (dCallO m__law_race F__law_race [] (rO 2 (rD (dBn oAdd (dC (.int 1)) (frzD (dCallO m__law_draw F__law_draw [] (rO 2 (rD (dC (.int 3)) (rNil)))))) (rNil)))) [.loc (.d (.scr ns)), .loc (.d (.int k)), .loc (poolT c s), v3, v4, v5, v6, v7, v8, v9] = .ok .nx [.loc (.d (.scr ns)), .loc (.d (.int k)), .loc (poolT c2 s2), .loc (raceT L rs), v4, v5, v6, v7, v8, v9] := by
    simp [m__law_draw, m__law_race, e1, er, f3]
  have V3 : dCons (dVar 3) dNil [.loc (.d (.scr ns)), .loc (.d (.int k)), .loc (poolT c2 s2), .loc (raceT L rs), v4, v5, v6, v7, v8, v9] = .ok [raceD L rs] [.loc (.d (.scr ns)), .loc (.d (.int k)), .loc (poolT c2 s2), .loc (.d (raceD L rs)), v4, v5, v6, v7, v8, v9] := rfl
  have MK := mk_ok V3 (callM_1 (C := "Session") (sess_init (r := raceD L rs)))
  have S3 := set_ok (i := 4) (env2 := [.loc (.d (.scr ns)), .loc (.d (.int k)), .loc (poolT c2 s2), .loc (.d (raceD L rs)), .loc (sessT [raceD L rs] [.tup [.int 0, .int 1]] []), v5, v6, v7, v8, v9]) MK (by simp [f4])
  have D5 : dLst (dCons (dVar 3) (dNil)) [.loc (.d (.scr ns)), .loc (.d (.int k)), .loc (poolT c2 s2), .loc (.d (raceD L rs)), .loc (sessT [raceD L rs] [.tup [.int 0, .int 1]] []), v5, v6, v7, v8, v9] = .ok (.lst [raceD L rs]) [.loc (.d (.scr ns)), .loc (.d (.int k)), .loc (poolT c2 s2), .loc (.d (raceD L rs)), .loc (sessT [raceD L rs] [.tup [.int 0, .int 1]] []), v5, v6, v7, v8, v9] := lst_ok (ar1 rfl) (by show 1 ≤ sizeLine; decide)
  have D6 : dLst (dCons (dTup (dCons (dC (.int 0)) (dCons (dC (.int 1)) (dNil)))) (dNil)) [.loc (.d (.scr ns)), .loc (.d (.int k)), .loc (poolT c2 s2), .loc (.d (raceD L rs)), .loc (sessT [raceD L rs] [.tup [.int 0, .int 1]] []), v5, v6, v7, v8, v9] = .ok (.lst [.tup [.int 0, .int 1]]) [.loc (.d (.scr ns)), .loc (.d (.int k)), .loc (poolT c2 s2), .loc (.d (raceD L rs)), .loc (sessT [raceD L rs] [.tup [.int 0, .int 1]] []), v5, v6, v7, v8, v9] :=
    lst_ok (cons_ok (t := .d (.tup [.int 0, .int 1])) (tup_ok (xs := [.int 0, .int 1]) (cons_ok (t := .d (.int 0)) rfl (cons_ok (t := .d (.int 1)) rfl nil_ok)) (by show 2 ≤ sizeLine; decide)) nil_ok) (by show 1 ≤ sizeLine; decide)
  have D7 : dLst dNil [.loc (.d (.scr ns)), .loc (.d (.int k)), .loc (poolT c2 s2), .loc (.d (raceD L rs)), .loc (sessT [raceD L rs] [.tup [.int 0, .int 1]] []), v5, v6, v7, v8, v9] = .ok (.lst []) [.loc (.d (.scr ns)), .loc (.d (.int k)), .loc (poolT c2 s2), .loc (.d (raceD L rs)), .loc (sessT [raceD L rs] [.tup [.int 0, .int 1]] []), v5, v6, v7, v8, v9] := rfl
  have S4 := par3T_ok (i := 5) (j := 6) (l := 7) (env4 := eL (.loc (.d (.scr ns))) (.loc (.d (.int k))) (.loc (.d (raceD L rs))) v8 v9 c2 s2 [raceD L rs] [ratD 0] [] [raceD L rs] [ratD 0] []) D5 D6 D7 (by simp [f5, f6, f7, r0])
  obtain ⟨w8, w9, c3, s3, hs', S', g8, g9, h', l', ef⟩ := turns_ok (v0 := .loc (.d (.scr ns))) (v1 := .loc (.d (.int k))) (v3 := .loc (.d (raceD L rs))) (rs0 := nrmR L rs) pL sL2 ((List.range 8).map fun i : Nat => D.int i) v8 v9 c2 s2 [(nrmR L rs, 0)] [] k2 f8 f9 h0 (by decide)
  have R1 : RsD L [(nrmR L rs, 0)] = [raceD L rs] := by show [raceD L (nrmR L rs)] = _; rw [eD]
  have ef : forL (gNm 8) c_law_0 ((List.range 8).map fun i : Nat => D.int i) (eL (.loc (.d (.scr ns))) (.loc (.d (.int k))) (.loc (.d (raceD L rs))) v8 v9 c2 s2 [raceD L rs] [ratD 0] [] [raceD L rs] [ratD 0] []) = .ok .nx (eH (.loc (.d (.scr ns))) (.loc (.d (.int k))) (.loc (.d (raceD L rs))) w8 w9 c3 s3 L hs' S') := by rw [← ef, ← R1]; rfl
  have F5 := for_ok (g := gNm 8) (s1 := c_law_0) (dRng1 (n := 8) (ds := dCons (dC (.int 8)) (dNil)) (e1 := eL (.loc (.d (.scr ns))) (.loc (.d (.int k))) (.loc (.d (raceD L rs))) v8 v9 c2 s2 [raceD L rs] [ratD 0] [] [raceD L rs] [ratD 0] []) rfl (by decide))
  have F5 := F5.trans ef
  have W := while_ok (v0 := .loc (.d (.scr ns))) (v1 := .loc (.d (.int k))) (v3 := .loc (.d (raceD L rs))) (v8 := w8) (v9 := w9) (c := c3) (s := s3) (R2 := RsD L hs') (C2 := CsD hs') (S2 := S') S'.length hs' S' rfl l' h'
  rw [eD] at W
  have GR : dPropO "Session" F_Session_race 4 (eL (.loc (.d (.scr ns))) (.loc (.d (.int k))) (.loc (.d (raceD L rs))) w8 w9 c3 s3 [raceD L rs] [ratD 0] [] (RsD L hs') (CsD hs') S') = .ok (.d (raceD L rs)) _ := g_race (R := []) (C := [ratD 0]) (S := []) rfl
  have GC : dPropO "Session" F_Session_clock 4 (eL (.loc (.d (.scr ns))) (.loc (.d (.int k))) (.loc (.d (raceD L rs))) w8 w9 c3 s3 [raceD L rs] [ratD 0] [] (RsD L hs') (CsD hs') S') = .ok (.d (ratD 0)) _ := g_clock (R := [raceD L rs]) (C := []) (S := []) rfl
  have iR : instC "Race" (raceD L rs) = true := by simp [raceD, instC]
  have E1 := aB_ok (eqO_ok (neg := true) (d2 := dVar 3) (C := "Race") GR (vr rfl) (by show (instC "Race" (raceD L rs) && instC "Race" (raceD L rs)) = true; rw [iR]; rfl) race_eq)
  have Q0 : frzD (dTup (dCons (dC (.int 0)) (dCons (dC (.int 1)) (dNil)))) (eL (.loc (.d (.scr ns))) (.loc (.d (.int k))) (.loc (.d (raceD L rs))) w8 w9 c3 s3 [raceD L rs] [ratD 0] [] (RsD L hs') (CsD hs') S') = .ok (ratD 0) (eL (.loc (.d (.scr ns))) (.loc (.d (.int k))) (.loc (.d (raceD L rs))) w8 w9 c3 s3 [raceD L rs] [ratD 0] [] (RsD L hs') (CsD hs') S') :=
    frz_ok (t := .d (ratD 0)) (tup_ok (xs := [.int 0, .int 1]) (cons_ok (t := .d (.int 0)) rfl (cons_ok (t := .d (.int 1)) rfl nil_ok)) (by show 2 ≤ sizeLine; decide))
  have N2 := ne_ev GC Q0 ((eqD_rat2 0 0).trans (congrArg some (decide_eq_true rfl)))
  have T1 := (or_f E1).trans N2
  refine ⟨[.loc (.d (.scr ns)), .loc (.d (.int k)), v2, v3, v4, v5, v6, v7, v8, v9], eL (.loc (.d (.scr ns))) (.loc (.d (.int k))) (.loc (.d (raceD L rs))) w8 w9 c3 s3 [raceD L rs] [ratD 0] [] (RsD L hs') (CsD hs') S', by simp [f1], ?_, ?_⟩
  · unfold c_law_2
    exact (seq_nx S1).trans ((seq_nx S2).trans ((seq_nx S3).trans ((seq_nx S4).trans ((seq_nx F5).trans ((seq_nx W).trans ((seq_nx (ite_f T1)).trans rfl))))))
  · exact ⟨_, _, _, _, _, _, _, _, _, rfl, rfl, rfl, rfl, rfl, rfl, rfl, g8, g9, rfl⟩
end Pn
namespace Ps
open PySem Dn Cd Pn
theorem law_ok (ns : List Int) (h : ns.length ≤ 63) : ∃ bk, F_law [.d (.scr ns)] = .ok (.d (.bool true)) bk := by
  have ls : oLen (.scr ns) = some (.d (.int ns.length)) := rfl
  obtain ⟨n, hn, hn8⟩ : ∃ n : Nat, dCons (dBs oMax2 (dCons (dC (.int 1)) (dCons (dBs oMin2 (dCons (dB1 oLen (pk 0)) (dCons (dC (.int 6)) (dNil)))) (dNil)))) (dNil) [.loc (.d (.scr ns)), .none, .none, .none, .none, .none, .none, .none, .none, .none] = .ok [.int n] [.loc (.d (.scr ns)), .none, .none, .none, .none, .none, .none, .none, .none, .none] ∧ n ≤ 6 := by
    refine ⟨max 1 (min ns.length 6), ?_, by omega⟩
    have m1 : oMin2 [.int ns.length, .int 6] = some (.d (.int ((min ns.length 6 : Nat) : Int))) := by
      show some (T.d (.int _)) = _
      congr 3
      first | (split <;> omega) | omega | skip
    have m2 : oMax2 [.int 1, .int ((min ns.length 6 : Nat) : Int)] = some (.d (.int ((max 1 (min ns.length 6) : Nat) : Int))) := by
      show some (T.d (.int _)) = _
      congr 3
      first | (split <;> omega) | omega | skip
    generalize ((max 1 (min ns.length 6) : Nat) : Int) = a2 at *
    generalize ((min ns.length 6 : Nat) : Int) = a1 at *
    simp [ls, m1, m2]
  have rg := dRng1 hn (by omega)
  have f0 : fr24 (.loc (.d (.scr ns))) [.loc (.d (.scr ns)), .none, .none, .none, .none, .none, .none, .none, .none, .none] := ⟨.none, .none, .none, .none, .none, .none, .none, .none, .none, rfl, rfl, rfl, rfl, rfl, rfl, rfl, rfl, rfl, rfl⟩
  obtain ⟨e', lp, fe⟩ := loop_inv (g := gNm 1) (bd := c_law_2) (h := fun i : Nat => D.int i) (P := fr24 (.loc (.d (.scr ns)))) (ys := List.range n) (fun k hk env he => outer_ok ns (by have := List.mem_range.mp hk; omega) he) f0
  generalize ((List.range n).map fun i : Nat => D.int i) = Is at *
  have A : c_law [.loc (.d (.scr ns)), .none, .none, .none, .none, .none, .none, .none, .none, .none] = .ok (.rt (.d (.bool true))) e' := by
    unfold c_law
    rw [e_dSeq, e_dFor, rg]
    simp [lp]
  refine ⟨backs e', ?_⟩
  show fin (c_law [.loc (.d (.scr ns)), .none, .none, .none, .none, .none, .none, .none, .none, .none]) = _
  rw [A]
  rfl
end Ps

namespace Hd
open PySem PySem.Spec PyProof.Rows L2 Dn
def loose : List Str := (["InvalidNumber", "InvalidLength", "InvalidRunner", "InvalidTime", "UnknownName", "DivisionByZero", "NothingToUndo", "Race", "Session", "_wall", "is_integer", "common_divisor", "is_ratio", "is_number", "ratio", "as_ratio", "plus", "minus", "times", "divided", "compare", "floor_of", "remainder", "is_name", "as_time", "is_piece", "are_pieces", "is_runner", "_law_pool", "_law_draw"] : List Str) ++ (["_law_choose", "_law_number", "_law_pieces", "_law_race", "_law_step", "_law_same", "MAX_RUNNERS", "MAX_PIECES", "LETTERS", "SIGNS"] : List Str)
abbrev R : PySem.W.OpenRow := PySem.W.OpenLaw.row PySem.Challenge.rw_laprunners_k24_sessions
abbrev hk : PySem.W.Hook := hookX 6 qs pr fa fn
def ob (s : PySem.W.SharedT) : AlX := obsXG 6 qs pr fa fn (HandSHeadRun.getT s)
theorem ob_eq (s : PySem.W.SharedT) : ob s = hk.obs s.abs := obsXG_eq (HandSHeadRun.getT_eq s)
theorem run (w : World) : HandSHeadRun.RunEq R (PySem.W.view R.prog [45]) hk ob 20000 loose w := by
  intro os
  kernel_rfl
end Hd
open PySem PySem.W PySem.Calls PyProof.Rows
theorem PySem.Challenge.cw_laprunners_k24_sessions_holds : PySem.Challenge.rw_laprunners_k24_sessions.Holds := by
  w_on; o_law
  refine HandSHeadRun.head_any (r := OpenLaw.row PySem.Challenge.rw_laprunners_k24_sessions) (q := view (OpenLaw.row PySem.Challenge.rw_laprunners_k24_sessions).prog [45]) (H := Hd.hk) (ob := Hd.ob) (M := 20000) (loose := Hd.loose) (d := HandSHeadRun.topDef (OpenLaw.row PySem.Challenge.rw_laprunners_k24_sessions).prog 45) (kwd := []) Hd.ob_eq
    (by kernel_rfl) (fun s => by kernel_rfl) Hd.run (by kernel_rfl) (by kernel_rfl) (by kernel_rfl) (by rfl) (by first | assumption | decide +kernel) (by decide +kernel) ⟨rfl, rfl, rfl, rfl, rfl, by decide +kernel⟩ ?hw ?hc
  case hw => w_witness2
  case hc =>
    refine Dn.walk_g (l := PySem.Challenge.rw_laprunners_k24_sessions) (n := 63) (k := 31) (x := "script") (CX := fun w => L2.CX (PySem.Challenge.rw_laprunners_k24_sessions).prog w) rfl (by decide) (by kernel_rfl) ⟨rfl, by decide, by decide⟩ ?F (fun w H s e s2 z => Dn.cx_false H s e s2 z)
    intro w mg fa h Y G hmg0
    obtain ⟨K, KX, c⟩ := Y
    have hmg : mg ("law" : PySem.Str) = some (.ref fa) := by
      have e : (HandSHeadRun.topDef (OpenLaw.row PySem.Challenge.rw_laprunners_k24_sessions).prog 45).name = ("law" : PySem.Str) := by kernel_rfl
      rw [← e]
      exact hmg0
    have T : Hd.TT K mg h := ⟨c, KX, G⟩
    obtain ⟨fd, F⟩ := T.tb.c.def_ 55 (d := Hd.d_law) rfl
    have e := hmg.symm.trans (Hd.g_law T)
    cases e
    have b := L2.FunD.bindsA (ps := ["script"]) F fun _ _ _ _ _ _ us hl => match us, hl with | [_], _ => rfl
    exact ⟨K, fd, Dn.spF K [false] Cd.F_law, KX, fun s v => b s [v] rfl, fun H a ns hl _ hS => let ⟨bk, q⟩ := Ps.law_ok ns hl; Dn.spLaw_of hS q, fun base _ _ => Dn.fn_ok F Wk.sc_law rfl (by decide) (Wk.b_law T)⟩
